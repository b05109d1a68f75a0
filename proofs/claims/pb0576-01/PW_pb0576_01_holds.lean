import PyProof.Rows.All
import Wide.All
import OpenK.AllK
import Wide.FinOn
import OpenK.Peek
import Lean
import PySem.Challenge.RW_pb0576_01
set_option Elab.async false
set_option maxRecDepth 100000
set_option autoImplicit false
set_option linter.all false
set_option tactic.hygienic false
set_option backward.match.sparseCases false
set_option genSizeOf false
set_option genCtorIdx false
set_option bootstrap.genMatcherCode false
noncomputable section
open List Nat
namespace Mine.Internal
abbrev aa:=List Nat
noncomputable def pV(f:Nat):Nat->aa->aa:=Nat.rec (fun _ a=>a) (fun _ g n a=>g (n/256)<|n%256::a) f
noncomputable abbrev cd(f n:Nat):aa:=pV f n []
@[simp]theorem yX(f):∀n a,(pV f n a).length=f+a.length:=by
 induction f with
 |zero=>intro n a;exact(Nat.zero_add _).symm
 |succ f ab=>intro n a;exact(ab _ _).trans<|Nat.add_right_comm f a.length 1
@[simp high]theorem KI(f n)(t:aa):(pV f n []++t).length=t.length+f:=List.length_append.trans ((yX f n []).symm▸Nat.add_comm ..)
theorem lQ:true=true:=rfl
theorem aL{a b:Nat}:a<=b+a:=le_add_left ..
theorem aU{p:Prop}[Decidable p](h:decide p=true:=by exact lQ):p:=of_decide_eq_true h
theorem a1{n m:Nat}(h:Nat.ble n m=true:=by exact lQ):n<=m:=le_of_ble_eq_true h
theorem a2{aq:Type}{a b:aq}(h:some a=some b):a=b:=Option.some.inj h
theorem bz{n m:Nat}(h:m<=n):n-m+m=n:=Nat.sub_add_cancel h
theorem bQ{n:Nat}:(0:Int)<=n:=Int.natCast_nonneg n
theorem a4{aq ck:Type}{a b:aq}{f:aq->ck}(h:a=b):f a=f b:=congrArg f h
theorem bn{aq ck:Type}{a b:aq}(f:aq->ck)(h:a=b):f a=f b:=congrArg f h
theorem bp{a b c:Nat}(h:a<=b)(k:b<=c):a<=c:=Nat.le_trans h k
theorem bR{a b:Nat}(h:a<=b)(k:b<=a):a=b:=Nat.le_antisymm h k
theorem bU{aq:Type}{a b:aq}{l:List aq}(h:a∈b::l):a=b\/a∈l:=mem_cons.mp h
abbrev ts:aa:=cd 28 0x756e6d617463686564206f70656e2071756f746520696e206c697374
abbrev tu:aa:=cd 28 0x6d697373696e672076616c756520746f20676f2077697468206b6579
abbrev tv:aa:=cd 28 0x756e6d617463686564206f70656e20627261636520696e206c697374
abbrev tw:aa:=cd 26 0x657870656374656420696e74656765722062757420676f742022
abbrev tx:aa:=cd 25 0x22206e6f74206b6e6f776e20696e2064696374696f6e617279
abbrev lR:aa:=cd 21 0x7b746865206b65797d207b7468652076616c75657d
abbrev ty:aa:=cd 19 0x223a206e6f2073756368207661726961626c65
abbrev pW:aa:=cd 18 0x2220696e7374656164206f66207370616365
abbrev pX:aa:=cd 16 0x6c69737420656c656d656e7420696e20
noncomputable abbrev nM:aa:=[103,101,116,119,105,116,104,100,101,102,97,117,108,116]
abbrev pY:aa:=cd 14 0x20666f6c6c6f7765642062792022
noncomputable abbrev pZ:aa:=[105,115,95,101,108,101,109,101,110,116]
noncomputable abbrev lS:aa:=[101,114,114,111,114,99,111,100,101]
noncomputable abbrev p0:aa:=[99,111,114,111,117,116,105,110,101]
noncomputable abbrev p1:aa:=[116,104,101,32,102,105,114,115,116]
noncomputable abbrev p2:aa:=[116,104,101,32,118,97,108,117,101]
noncomputable abbrev iQ:aa:=[68,73,67,84,73,79,78,65,82,89]
noncomputable abbrev nN:aa:=[105,115,95,110,111,116,101,100]
noncomputable abbrev p3:aa:=[116,104,101,32,105,116,101,109]
noncomputable abbrev jy:aa:=[99,111,109,109,97,110,100,115]
noncomputable abbrev nO:aa:=[116,104,101,32,99,111,112,121]
noncomputable abbrev kv:aa:=[116,104,101,32,110,97,109,101]
noncomputable abbrev nP:aa:=[116,104,101,32,100,105,99,116]
noncomputable abbrev kx:aa:=[95,95,105,110,105,116,95,95]
noncomputable abbrev ia:aa:=[108,97,112,112,101,110,100]
noncomputable abbrev fZ:aa:=[114,101,112,108,97,99,101]
noncomputable abbrev ky:aa:=[103,101,116,100,101,102]
noncomputable abbrev gg:aa:=[102,105,108,116,101,114]
noncomputable abbrev jz:aa:=[101,120,105,115,116,115]
noncomputable abbrev e5:aa:=[114,101,109,111,118,101]
noncomputable abbrev nQ:aa:=[119,114,105,116,101,115]
noncomputable abbrev nR:aa:=[105,110,108,105,110,101]
noncomputable abbrev lT:aa:=[102,105,114,115,116,115]
noncomputable abbrev lU:aa:=[115,99,114,105,112,116]
noncomputable abbrev ib:aa:=[117,112,100,97,116,101]
noncomputable abbrev kz:aa:=[118,97,108,117,101,115]
noncomputable abbrev ic:aa:=[97,112,112,101,110,100]
noncomputable abbrev gF:aa:=[101,115,99,97,112,101]
noncomputable abbrev dK:aa:=[119,114,105,116,101]
noncomputable abbrev lV:aa:=[109,101,114,103,101]
noncomputable abbrev kA:aa:=[117,110,115,101,116]
noncomputable abbrev kB:aa:=[116,111,111,108,115]
noncomputable abbrev nS:aa:=[108,105,109,105,116]
noncomputable abbrev kC:aa:=[100,101,112,116,104]
noncomputable abbrev lW:aa:=[115,112,101,110,116]
noncomputable abbrev fH:aa:=[118,97,108,117,101]
noncomputable abbrev ie:aa:=[76,79,79,75,85,80]
noncomputable abbrev nT:aa:=[101,112,111,99,104]
noncomputable abbrev kD:aa:=[98,114,97,99,101]
noncomputable abbrev jA:aa:=[105,110,102,111]
noncomputable abbrev kE:aa:=[108,105,110,101]
noncomputable abbrev dX:aa:=[86,65,76,85,69]
noncomputable abbrev gG:aa:=[110,111,110,101]
noncomputable abbrev kF:aa:=[100,114,111,112]
noncomputable abbrev g3:aa:=[119,105,116,104]
noncomputable abbrev iR:aa:=[107,101,121,115]
noncomputable abbrev kG:aa:=[107,105,110,100]
noncomputable abbrev lX:aa:=[102,117,101,108]
noncomputable abbrev jB:aa:=[91,97,98,93,42]
noncomputable abbrev jC:aa:=[99,111,100,101]
noncomputable abbrev jD:aa:=[109,97,115,107]
noncomputable abbrev hH:aa:=[100,105,99,116]
noncomputable abbrev fl:aa:=[114,101,97,100]
noncomputable abbrev gh:aa:=[105,110,99,114]
noncomputable abbrev jE:aa:=[118,97,114,115]
noncomputable abbrev hI:aa:=[76,73,83,84]
noncomputable abbrev g4:aa:=[121,101,115]
noncomputable abbrev kH:aa:=[114,117,110]
noncomputable abbrev kI:aa:=[102,111,114]
noncomputable abbrev hJ:aa:=[103,101,116]
noncomputable abbrev jF:aa:=[115,101,116]
noncomputable abbrev jG:aa:=[109,97,112]
noncomputable abbrev cD:aa:=[84,67,76]
noncomputable abbrev tz:Nat:=0x808480850266124102003036620430d40449081061a808911020c35011203030f424005ca08105
noncomputable abbrev tA:Nat:=0x40424042813309208100181b31021f40a242041f40a222041f40a203030f424005ca08105
noncomputable abbrev tB:Nat:=0x310258210a048c2070a04982846204082046204001081010020494388116
noncomputable abbrev tC:Nat:=0x18409108c281240e130810812a2048820810304204840081070a0028106
noncomputable abbrev tD:Nat:=0x420498520a0208409c840927c028445046014082ab980a1312118050203
noncomputable abbrev tE:Nat:=0x493e0142420400409408c28123041088109c407101021e8480060888104
noncomputable abbrev tF:Nat:=0x104102010620364204d40800c0d88810fa051018185dc069410204
noncomputable abbrev p4:Nat:=0x110109820a04d40800c0d888109c40710181861a8089210203
noncomputable abbrev p5:Nat:=0x110109820a04d40800c0d888109c40710181861a8089310203
noncomputable abbrev p6:Nat:=0x81221408f270e0182020420000000000000003f3024428172
noncomputable abbrev nU:Nat:=0x204904214094e2038808108000000000000000fc888172
noncomputable abbrev p7:Nat:=0xc0d90808c4409a810c35011203030f42400304840402
noncomputable abbrev lY:Nat:=0xc0d90808c4409a810c35011203030927c0284840402
noncomputable abbrev nV:Nat:=0x409010208000000000000000fcc0901027822aa8171
noncomputable abbrev p8:Nat:=0x1102fe8480060808108000000000000000fc888172
noncomputable abbrev p9:Nat:=0x11023e8480060808108000000000000000fc888172
noncomputable abbrev qa:Nat:=0x11021c9c38060808108000000000000000fc888172
noncomputable abbrev nW:Nat:=0x1102fc9c38060808108000000000000000fc888172
noncomputable abbrev nX:Nat:=0x8817f424005c808108000000000000000fc888172
noncomputable abbrev nY:Nat:=0x1f40a2220404008118000000000000000fc808172
noncomputable abbrev kJ:Nat:=0x4000000c901021000000000000000100808171
noncomputable abbrev nZ:Nat:=0x840b9011021e84800b901021e8480060888103
noncomputable abbrev n0:Nat:=0x19039008440861a808901021e848050888102
noncomputable abbrev n1:Nat:=0x8120204f045550000000000000001f981f0
noncomputable abbrev qb:Nat:=0x20480440c281220210081011025188102
noncomputable abbrev qc:Nat:=0x181b11021f40a203030f424005c888102
noncomputable abbrev qd:Nat:=0x1030a048808502402810106204a8102
noncomputable abbrev qe:Nat:=0x220430d404480810f424005c888102
noncomputable abbrev qf:Nat:=0x812228238120124228238120128100
noncomputable abbrev jH:Nat:=0x186a02244005021fffff660888101
noncomputable abbrev n2:Nat:=0x9c4071010210000003240408a8101
noncomputable abbrev qg:Nat:=0x4088050000000000000001f981f0
noncomputable abbrev gH:Nat:=0x2048050000000000000001f981f0
noncomputable abbrev lZ:Nat:=0x204885024025024440900928100
noncomputable abbrev n3:Nat:=0x22043e814404087d028888102
noncomputable abbrev g5:Nat:=0x10000000000000001f981f0
noncomputable abbrev n4:Nat:=0x4000000000000001e981f0
noncomputable abbrev n5:Nat:=0x812210081081221008101
noncomputable abbrev n6:Nat:=0x110240281211024028101
noncomputable abbrev n7:Nat:=0x110240281111024028101
noncomputable abbrev n8:Nat:=0x80881010020488008102
noncomputable abbrev l0:Nat:=0x2021008102021008101
noncomputable abbrev eS:Nat:=0x5042a8218100
namespace Hq
open PySem PySem.W
noncomputable abbrev bO:Program:=PySem.Challenge.pw_pb0576_01
noncomputable def l1:List Stmt->Nat->Stmt|[],_=>.Pass ⟨0,0,0,0⟩|a::_,0=>a|_::r,n+1=>l1 r n
noncomputable def e6:Stmt->Str|.FunctionDef n .. =>n|.ClassDef n .. =>n|_=>⟨#[]⟩
noncomputable def l2:Stmt->Arguments|.FunctionDef _ a .. =>a|_=>⟨[],[],none,[],[],none,[]⟩
noncomputable def n9:Stmt->List Stmt|.FunctionDef _ _ b .. =>b|.ClassDef _ _ _ b .. =>b|_=>[]
def oa:Stmt->Scope|.FunctionDef _ _ _ _ _ _ s .. =>s|_=>bO.main.scope
def dD(i:Nat):Stmt:=l1 bO.main.body i
def jI(i j:Nat):Stmt:=l1 (n9<|dD i) j
noncomputable def ad(s:String)(t:Nat):Value:=.str (Str.ofString s) t
noncomputable def cK(p:Params)(s:String)(t:Nat)(v:Value):DictEntry:=⟨PyData.keyHash p<|Str.ofString s,.str (Str.ofString s) t,v⟩
noncomputable def ba(l:List Value):Obj:=⟨.type "tuple",none,.seq l.toArray 0,#[]⟩
noncomputable def tG:Obj:=⟨.none,none,.fields #[],#[]⟩
def tH(st:Stmt)(q:Str):Obj:=⟨.none,none,.func ⟨e6 st,q,l2 st,.stmts<|n9 st,oa st,0,[],.none,.none,.none,.none,none,.none,.none,0⟩,#[]⟩
def ob(st:Stmt)(q:Str)(d m:Value)(c:Nat):Obj:=⟨.type "function",none,.func ⟨e6 st,q,l2 st,.stmts<|n9 st,oa st,3,[],d,.none,.none,m,none,.ref c,.none,0⟩,#[]⟩
def kK:Obj:=ba []
noncomputable def hK(s:Str)(t:Nat):Value:=.str s t
def qh(t:Nat):Value:=ad "/claim/cut.py" t
noncomputable def ln(st:Stmt):Value:=.int (st.pos.line:Int) 0
noncomputable def qi:Value:=.int 0 0
def qj(nm q:Str)(a:Nat)(l:Value)(Z X Y:Nat)(r:List Value):Obj:=⟨.type "code",none,.fields ([hK nm a,hK q<|a+1,qh<|a+2,l,.int Z 0,qi,qi,.int X 0]++r++[.int Y 0,l,qh<|Y+1]).toArray,#[]⟩
noncomputable def oc(nm q:Str)(a:Nat)(l:Value)(Z Y i:Nat):Obj:=qj nm q a l Z 3 Y [.ref<|i-5,.bool true,.int 181 0,.ref<|i-4,.none,.ref<|i-3,.ref<|i-2,.ref<|i-1]
def g6:Value:=(ad "law_pb0576_01" 1519)
def iS:Value:=ad "tclcore.faults" 194
def jJ:Value:=ad "tclcore.host" 1198
noncomputable def kL(st:Stmt):List Str:=((oa st).names.filter fun x=>x.2==.local).map (·.1)
noncomputable def qk:List Str->Nat->List Value|[],_=>[]|s::r,t=>hK s t::qk r (t+1)
def l3(b t:Nat)(st:Stmt)(q:Str)(d m:Value):List Obj:=[kK,tG,ba<|qk (kL st)<|t+3,kK,tH st q,oc (e6 st) q t (ln st) (l2 st).args.length (t+3+(kL st).length)<|b+5,ob st q d m<|b+5]
noncomputable def b0(s:Nat->Stmt)(q:Str)(m:Value):Nat->Nat->Nat->Nat->List Obj|0,_,_,_=>[]|n+1,i,b,t=>l3 b t (s i) (q++e6 (s i)) .none m++b0 s q m n (i+1) (b+7) (t+6+(kL<|s i).length)
noncomputable def l4(p:Params)(s:Nat->Stmt):Nat->Nat->Nat->Nat->List DictEntry|0,_,_,_=>[]|n+1,i,b,t=>⟨PyData.keyHash p<|e6<|s i,hK (e6<|s i)<|t+5+(kL<|s i).length,.ref<|b+6⟩::l4 p s n (i+1) (b+7) (t+6+(kL<|s i).length)
noncomputable def ls(s:Nat->Stmt)(k:Int):Nat->Nat->Nat->List Value|0,_,_=>[]|n+1,i,b=>ln (s i)::.int k 0::.ref (b+5)::ls s k n (i+1) (b+7)
noncomputable def yY:Obj:=⟨.type "builtin_function_or_method",none,.fields #[.builtin "type.__prepare__",.type "type"],#[]⟩
noncomputable def tI(n:Str)(t l b:Nat):Obj:=qj n n t (.int l 0) 0 0 (t+3) [.ref b,.bool false,.int 181 0,.ref<|b+1,.none,.none,.none,.none]
noncomputable def tJ(c d:Nat)(m:Value):Obj:=⟨.type "frame",none,.plain,#[some<|.ref c,some<|.ref 3,some<|.ref d,none,some m,none,some<|.ref 0]⟩
def ql(n:String)(t i:Nat)(a b:Value):Obj:=⟨.type "getset_descriptor",none,.fields #[ad n t,.ref i,a,b],#[]⟩
def qm(b e t:Nat)(n:Str)(Z ax:List Value)(w:String)(s:List Value):Obj:=⟨.type "type",none,.cls ⟨n,Z,.ref (e+2)::ax,e+1,n,true,[],s,false,none,false⟩,#[if ax.length=1 then none else some (.ref b),none,some<|hK n t,some<|hK n<|t+8,some<|.builtin w,some<|.bool true]⟩
def tK(p:Params)(b t l:Nat)(n:Str)(m:Value)(Z ax:List Value)(w:String)(s:List Value)(Y:List Obj)(U:List Value)(X:List DictEntry)(W k:Nat)(sn:List String):List Obj:=
 let e:=b+7+Y.length
 let u:=W+sn.length
 let a:=cK p "__module__" (t+7) m
 let c:=cK p "__firstlineno__" (t+11) (.int l<|t+10)::X++[cK p "__static_attributes__" u<|.ref e]
 let V (j:Nat):=[cK p "__weakref__" (u+j)<|.ref<|e+2+j/2]
 let d:=match k with|0=>[cK p "__doc__" (u+1) .none]|1=>V 2++[cK p "__doc__" (u+3) .none]|_=>cK p "__dict__" (u+2) (.ref<|e+3)::V 4++[cK p "__doc__" (u+5) .none]
 let g:=match k with|0=>[]|1=>[ql "__weakref__" (u+1) (e+2) (.builtin "ExceptionGroup.__weakref__") .none]|_=>[ql "__dict__" (u+1) (e+2) (.builtin "function.__dict__")<|.builtin "function.__dict__#set",ql "__weakref__" (u+3) (e+2) (.builtin "ExceptionGroup.__weakref__") .none]
 [if ax.length=1 then kK else ba Z,yY,⟨.type "dict",none,.dict (a::cK p "__qualname__" (t+9) (hK n<|t+8)::c).toArray<|4+X.length,#[]⟩,kK,⟨.none,none,.fields U.toArray,#[]⟩,tI n (t+2) l<|b+3,tJ (b+5) (b+2) m]++Y
  ++[ba<|qk (sn.map Str.ofString) W,⟨.type "dict",none,.dict (a::c++d).toArray<|2+k,#[]⟩,qm b e t n Z ax w s]++g
  ++[⟨.type "super",none,.fields #[.ref<|e+2,.ref<|e+2,.ref<|e+2],#[]⟩,⟨.type "builtin_function_or_method",none,.fields #[.builtin "object.__init_subclass__",.ref<|e+2],#[]⟩]
noncomputable def dp:Value:=.type "object"
def xs:List Value:=[.type "Exception",.type "BaseException",dp]
noncomputable def yZ:Str:=Str.empty
def g7(m:Value):Nat->Nat->Nat->Nat->List Obj:=b0 dD yZ m
def f1(i b t:Nat)(d m:Value):List Obj:=l3 b t (dD i) (e6<|dD i) d m
def iT(p:Params)(i n b t:Nat)(m:Value)(W ax:List Value)(w:String)(s:List Value)(Y:List Obj)(X V k:Nat)(sn:List String):List Obj:=
 let q:Str:=e6 (dD i)++Str.ofString "."
 let Z:=b+7+Y.length
 tK p b t (dD i).pos.line (e6<|dD i) m W ax w s (Y++match n with|0=>[]|n+1=>l3 Z X (jI i 0) (q++e6 (jI i 0)) (match Y with|[]=>.none|_=>.ref<|Z-1) m++b0 (jI i) q m n 1 (Z+7) (X+6+(kL<|jI i 0).length)) (ls (jI i) 4 n 0 Z) (l4 p (jI i) n 0 Z X) V k sn
noncomputable def l5:String:="Exception.__new__"
noncomputable def kM:String:="object.__new__"
noncomputable def c6:List Value:=[.ref 945]
def qn(s:List Value):Obj:=qm 22 36 196 (Str.ofString "TclFault") [.type "Exception"] xs l5 s
def tL(s:List Value):Obj:=qm 702 780 1200 (Str.ofString "Host") [dp] [dp] kM s
def sp(i b t:Nat):List Obj:=[kK,tG,tH (dD i)<|e6<|dD i,qj (e6<|dD i) (e6<|dD i) t (ln<|dD i) (l2<|dD i).args.length 3 (t+3) [.ref b,.bool true,.int 181 0,.ref<|b+1,.none,.none,.none,.ref<|b+2],ob (dD i) (e6<|dD i) .none g6<|b+3]
def gi(p:Params)(n i b t:Nat):List DictEntry:=l4 p dD n i b t
def y0(p:Params):List DictEntry:=[cK p "__doc__" 166 .none,cK p "__package__" 167 .none,cK p "__loader__" 168<|.builtin "__main__.__loader__#opaque",cK p "__spec__" 169 .none,cK p "__annotations__" 170<|.ref 6,cK p "__builtins__" 171<|.ref 4,cK p "__file__" 173<|qh 172,cK p "__cached__" 174 .none]++gi p 1 0 15 187
 ++[cK p "TclFault" 224<|.ref 38,cK p "Misused" 240<|.ref 51,cK p "OutOfFuel" 256<|.ref 63,cK p "Raised" 300<|.ref 84,cK p "Nest" 336<|.ref 105,cK p "Pause" 367<|.ref 126]++gi p 9 8 133 369++gi p 8 18 196 453++gi p 3 27 252 526++gi p 8 31 273 562++gi p 2 39 330 645++gi p 9 42 344 667++gi p 4 52 407 755++gi p 1 56 436 798++gi p 34 58 443 815
 ++[cK p "Var" 1197<|.ref 697,cK p "Host" 1311<|.ref 782]++gi p 6 96 787 1312++[cK p "SmallHost" 1518<|.ref 945]++gi p 13 104 948 1521++[cK p "_law_filters" 1659<|.ref 1043]++gi p 1 118 1044 1660++[cK p "law" 1681<|.ref 1055]
def jK(p:Params)(k:Nat)(nm:Value):Obj:=⟨.type "dict",none,.dict (cK p "__name__" 165 nm::(y0 p).take (k-1)).toArray k,#[]⟩
def lc(i a:Nat):List Value:=[ln<|dD i,qi,.ref a]
def lf(n i b:Nat):List Value:=ls dD 0 n i b
noncomputable def y1:List Value:=lf 1 0 15++lc 2 27++lc 3 47++lc 4 59++lc 5 71++lc 6 93++lc 7 115++lf 9 8 133++lf 8 18 196++lf 3 27 252++lf 8 31 273++lf 2 39 330++lf 9 42 344++lf 4 52 407++lf 1 56 436++lf 34 58 443++lc 93 686++lc 95 707++lf 6 96 787++lc 102 834++lf 13 104 948++lc 117 1042++lf 1 118 1044++lc 119 1054
def kN(k:Nat):Obj:=⟨.none,none,.fields (y1.take k).toArray,#[]⟩
noncomputable def jL:Obj:=⟨.none,none,.dict #[] 0,#[]⟩
def qo(p:Params):Obj:=⟨.none,none,.dict #[cK p "type.__subclasses__.Exception.0" 221<|.int 38 0,cK p "type.__subclasses__.Exception.n" 222<|.int 1 0] 2,#[]⟩
def dg(p:Params):Obj:=⟨.none,none,(.dict #[cK p "type.__subclasses__.Exception.0" 221<|.int 38 0,cK p "type.__subclasses__.Exception.n" 222<|.int 2 0,cK p "type.__subclasses__.Exception.1" 297<|.int 84 0] 3),#[]⟩
def qp:Value:=ad "tclcore.lists" 560
def tM:Value:=ad "tclcore.glob" 753
def y2(p:Params):List Obj:=
 let q:Str:=Str.ofString "SmallHost."
 let m:=jI 102
 tK p 829 1365 858 (Str.ofString "SmallHost") jJ [.ref 782] [.ref 782,dp] kM [] ([ba [.int 40 1377,.none]]++l3 837 1378 (m 0) (q++e6 (m 0)) (.ref 836) jJ++b0 m q jJ 9 1 844 1387++[ba [.none]]++l3 908 1465 (m 10) (q++e6 (m 10)) (.ref 907) jJ++b0 m q jJ 4 11 915 1475)
  (ls m 4 10 0 837++ls m 4 5 10 908) (l4 p m 10 0 837 1378++l4 p m 5 10 908 1465) 1512 0 ["commands","firsts","vars"]
@[irreducible]def objs(p:Params):List Obj:=[boot_o_0 p,boot_o_1 p,dg p,jK p 119 g6,boot_o_4 p,boot_o_5 p,boot_o_6 p,boot_o_7 p,boot_o_8 p,boot_o_9 p,boot_o_10 p,kK,kN 330,tI (Str.ofString "<module>") 182 1 11,tJ 13 3<|ad "__main__" 164]++g7 (ad "__main__" 164) 1 0 15 187
 ++iT p 2 1 22 196 iS [.type "Exception"] xs l5 [.ref 51,.ref 63] [] 208 216 1 ["why"]++iT p 3 0 42 225 iS [.ref 38] (.ref 38::xs) l5 [] [] 0 237 0 []++iT p 4 0 54 241 iS [.ref 38] (.ref 38::xs) l5 [] [] 0 253 0 []
 ++iT p 5 1 66 257 iS [.type "Exception"] xs l5 [] [ba [ad "NONE" 269],ba [.ref 73,.int 0 270,.int 0 271]] 272 284 1 ["code","errorcode","extra","info","is_noted","level","line","ret","value"]
 ++iT p 6 1 88 301 iS [dp] [dp] kM [] [ba [.none,.bool false,ad "" 313]] 314 325 2 ["back","is_proc","label","script"]++iT p 7 1 110 337 iS [dp] [dp] kM [] [] 349 358 2 ["kind","words"]
 ++[ba [ad "NONE" 368],ba [.ref 131]]++f1 8 133 369 (.ref 132) iS++g7 iS 8 9 140 377++g7 (ad "tclcore.numbers" 451) 8 18 196 453++g7 (ad "tclcore.words" 524) 3 27 252 526++g7 qp 8 31 273 562++[ba [.bool false]]++f1 39 330 645 (.ref 329) qp++g7 qp 1 40 337 656
 ++g7 (ad "tclcore.dicts" 665) 9 42 344 667++g7 tM 4 52 407 755++[ba [.bool false]]++f1 56 436 798 (.ref 435) tM++g7 (ad "tclcore.dictcmds" 813) 34 58 443 815
 ++iT p 93 1 681 1165 (ad "tclcore.spaces" 1163) [dp] [dp] kM [] [] 1177 1184 2 ["is_busy","is_element","kind","traces","value","writes"]
 ++iT p 95 10 702 1200 jJ [dp] [dp] kM c6 [ba [.int 40 1212,.none]] 1213 1295 2 ["coroutine","depth","epoch","frame","fuel","inline","limit","spent","tools"]
 ++g7 jJ 6 96 787 1312++y2 p++g7 g6 13 104 948 1521++sp 117 1039 1654++f1 118 1044 1660 .none g6++sp 119 1051 1676
noncomputable def alt:List Obj->List Obj|[]=>[]|a::r=>a::match r with|[]=>[]|_::r=>alt r
noncomputable def tree:Nat->List Obj->BT|0,_=>.nil|_+1,[]=>.nil|n+1,o::r=>.node o (tree n<|alt r)<|tree n<|alt<|r.drop 1
def e7(p:Params):BT:=tree 12<|objs p
def TT(p:Params)(k f:Nat)(nm:Value)(Z:Obj)(s t:List Value):BT:=(((((e7 p).set 3 fun _=>jK p k nm).set 12 fun _=>kN f).set 2 fun _=>Z).set 38 fun _=>qn s).set 782 fun _=>tL t
def env:Env:=⟨bO.main.scope,mainNs,mainNs,[],Str.empty,none,.ref 13,some 14,0⟩
def St(w:World)(n k f ea:Nat)(nm:Value)(Z:Obj)(s t:List Value)(os:OsState):SharedT:=⟨TT w.params k f nm Z s t,n,{},#[],{},ea,os⟩
noncomputable abbrev ig(b:List Stmt):Code:=.body b env
noncomputable abbrev fr:List Frame:=[topFrame ⟨0,0,0,0⟩]
def ea(i c:Nat):List Stmt:=(bO.main.body.drop i).take c
abbrev jM(i:Nat):List Stmt:=bO.main.body.drop i
theorem dq{p w Y n Z s t r}(h:Fast.tw10110043849684766642 Fast.tw14364793385576792824 p w Y Z 1 n s t=r):segRunT treeTable p w Y Z 1 n s t=r:=by rw[Fast.te10110043849684766642,Fast.te14364793385576792824];exact h
variable(p:Program)(b:List Stmt)(w:World)(os:OsState)
theorem y3{i c j}(e:i+c=j):ea i c++jM j=jM i:=by subst e;unfold ea jM;rw[<-drop_drop,take_append_drop]
def SL:SharedT:=St w 1056 119 330 1682 (ad "law_pb0576_01" 1519) (dg w.params) [.ref 51,.ref 63] c6 os
def dj(N n k f t:Nat)(nm:String)(v:Nat)(o:Obj)(s u:List Value)(i:Nat)(x:Pos):Prop:=topRun treeTable p w 11 (some<|.ref 6) N (St w n k f t (ad nm v) o s u os).abs (restOf (jM i) env (ig b) x fr)=some (SL w os).abs
variable{p b w os}
theorem dw{i c j n N M s Z r x y}(e:i+c=j)(Y:n+N=M)(h:segRunT treeTable p w 11 (some<|.ref 6) 1 n s (piecesOf (ea i c) env (ig b) x fr)=some (.next,Z,ig b,y))(k:topRun treeTable p w 11 (some<|.ref 6) N Z.abs (restOf (jM j) env (ig b) y fr)=some r):topRun treeTable p w 11 (some<|.ref 6) M s.abs (restOf (jM i) env (ig b) x fr)=some r:=by
 subst Y;have:=piece_app (segRun_of h) k
 rwa [y3 e]at this
variable(p b w os)
theorem y4:dj p b w os 2 1056 119 330 1682 "law_pb0576_01" 1519 (dg w.params) [.ref 51,.ref 63] c6 120 ⟨1050,0,1067,95⟩:=by unfold dj;rw[Fast.te14082659384304107361,Fast.te14364793385576792824];kernel_rfl
theorem y5:dj p b w os 67 1044 117 324 1660 "law_pb0576_01" 1519 (dg w.params) [.ref 51,.ref 63] c6 118 ⟨1019,0,1031,106⟩:=dw (c:=2) (n:=65) rfl rfl (dq<|by kernel_rfl)<|y4 p b w os
theorem y6:dj p b w os 297 997 110 303 1583 "law_pb0576_01" 1519 (dg w.params) [.ref 51,.ref 63] c6 111 ⟨961,0,965,57⟩:=dw (c:=7) (n:=230) rfl rfl (dq<|by kernel_rfl)<|y5 p b w os
theorem y7:dj p b w os 523 948 103 282 1519 "tclcore.host" 1198 (dg w.params) [.ref 51,.ref 63] c6 103 ⟨858,0,922,45⟩:=dw (c:=8) (n:=226) rfl rfl (dq<|by kernel_rfl)<|y6 p b w os
theorem y8:dj p b w os 1236 829 102 279 1365 "tclcore.host" 1198 (dg w.params) [.ref 51,.ref 63] [] 102 ⟨854,0,857,36⟩:=dw (c:=1) (n:=713) rfl rfl (dq<|by kernel_rfl)<|y7 p b w os
theorem y9:dj p b w os 1422 787 96 261 1312 "tclcore.host" 1198 (dg w.params) [.ref 51,.ref 63] [] 96 ⟨767,0,831,16⟩:=dw (c:=6) (n:=186) rfl rfl (dq<|by kernel_rfl)<|y8 p b w os
theorem za:dj p b w os 1945 702 95 258 1200 "tclcore.host" 1198 (dg w.params) [.ref 51,.ref 63] c6 95 ⟨766,0,766,8⟩:=dw (c:=1) (n:=523) rfl rfl (dq<|by kernel_rfl)<|y9 p b w os
theorem zb:dj p b w os 2181 681 94 255 1165 "tclcore.spaces" 1163 (dg w.params) [.ref 51,.ref 63] c6 93 ⟨756,0,756,8⟩:=dw (c:=2) (n:=236) rfl rfl (dq<|by kernel_rfl)<|za p b w os
theorem zc:dj p b w os 2404 632 87 234 1104 "tclcore.dictcmds" 813 (dg w.params) [.ref 51,.ref 63] c6 85 ⟨704,0,713,17⟩:=dw (c:=8) (n:=223) rfl rfl (dq<|by kernel_rfl)<|zb p b w os
theorem zd:dj p b w os 2654 583 80 213 1009 "tclcore.dictcmds" 813 (dg w.params) [.ref 51,.ref 63] c6 78 ⟨617,0,627,20⟩:=dw (c:=7) (n:=250) rfl rfl (dq<|by kernel_rfl)<|zc p b w os
theorem ze:dj p b w os 2880 534 73 192 938 "tclcore.dictcmds" 813 (dg w.params) [.ref 51,.ref 63] c6 71 ⟨564,0,568,15⟩:=dw (c:=7) (n:=226) rfl rfl (dq<|by kernel_rfl)<|zd p b w os
theorem zf:dj p b w os 3129 478 65 168 866 "tclcore.dictcmds" 813 (dg w.params) [.ref 51,.ref 63] c6 63 ⟨505,0,517,30⟩:=dw (c:=8) (n:=249) rfl rfl (dq<|by kernel_rfl)<|ze p b w os
theorem zg:dj p b w os 3370 428 58 147 788 "tclcore.glob" 753 (dg w.params) [.ref 51,.ref 63] c6 55 ⟨446,0,450,25⟩:=dw (c:=8) (n:=241) rfl rfl (dq<|by kernel_rfl)<|zf p b w os
theorem zh:dj p b w os 3606 379 51 126 714 "tclcore.dicts" 665 (dg w.params) [.ref 51,.ref 63] c6 47 ⟨377,0,387,29⟩:=dw (c:=8) (n:=236) rfl rfl (dq<|by kernel_rfl)<|zg p b w os
theorem zi:dj p b w os 3838 329 44 105 645 "tclcore.lists" 560 (dg w.params) [.ref 51,.ref 63] c6 39 ⟨326,0,332,12⟩:=dw (c:=8) (n:=232) rfl rfl (dq<|by kernel_rfl)<|zh p b w os
theorem zj:dj p b w os 4066 280 37 84 572 "tclcore.lists" 560 (dg w.params) [.ref 51,.ref 63] c6 32 ⟨230,0,236,133⟩:=dw (c:=7) (n:=228) rfl rfl (dq<|by kernel_rfl)<|zi p b w os
theorem zk:dj p b w os 4309 231 30 63 498 "tclcore.numbers" 451 (dg w.params) [.ref 51,.ref 63] c6 23 ⟨140,0,159,40⟩:=dw (c:=9) (n:=243) rfl rfl (dq<|by kernel_rfl)<|zj p b w os
theorem zl:dj p b w os 4535 182 23 42 434 "tclcore.faults" 194 (dg w.params) [.ref 51,.ref 63] c6 15 ⟨77,0,83,26⟩:=dw (c:=8) (n:=226) rfl rfl (dq<|by kernel_rfl)<|zk p b w os
theorem zm:dj p b w os 4759 131 16 21 368 "tclcore.faults" 194 (dg w.params) [.ref 51,.ref 63] c6 8 ⟨34,0,38,26⟩:=dw (c:=7) (n:=224) rfl rfl (dq<|by kernel_rfl)<|zl p b w os
theorem zn:dj p b w os 4984 110 15 18 337 "tclcore.faults" 194 (dg w.params) [.ref 51,.ref 63] c6 7 ⟨27,0,33,26⟩:=dw (c:=1) (n:=225) rfl rfl (dq<|by kernel_rfl)<|zm p b w os
theorem zo:dj p b w os 5215 88 14 15 301 "tclcore.faults" 194 (dg w.params) [.ref 51,.ref 63] c6 6 ⟨14,0,26,23⟩:=dw (c:=1) (n:=231) rfl rfl (dq<|by kernel_rfl)<|zn p b w os
theorem zp:dj p b w os 5462 66 13 12 257 "tclcore.faults" 194 (qo w.params) [.ref 51,.ref 63] c6 5 ⟨12,0,13,8⟩:=dw (c:=1) (n:=247) rfl rfl (dq<|by kernel_rfl)<|zo p b w os
theorem zq:dj p b w os 5676 54 12 9 241 "tclcore.faults" 194 (qo w.params) [(.ref 51)] c6 4 ⟨10,0,11,8⟩:=dw (c:=1) (n:=214) rfl rfl (dq<|by kernel_rfl)<|zp p b w os
theorem zr:dj p b w os 5890 42 11 6 225 "tclcore.faults" 194 (qo w.params) [] c6 3 ⟨5,0,9,22⟩:=dw (c:=1) (n:=214) rfl rfl (dq<|by kernel_rfl)<|zq p b w os
theorem zt:dj p b w os 6119 22 10 3 196 "tclcore.faults" 194 jL [.ref 51,.ref 63] c6 2 ⟨4,0,4,8⟩:=dw (c:=1) (n:=229) rfl rfl (dq<|by kernel_rfl)<|zr p b w os
theorem zu:dj p b w os 6158 15 9 0 187 "__main__" 164 jL [.ref 51,.ref 63] c6 0 ⟨0,0,0,0⟩:=dw (c:=2) (n:=39) rfl rfl (dq<|by kernel_rfl)<|zt p b w os
abbrev bd:List Stmt:=behindTheImports bO
abbrev tN(w:World)(os:OsState):Shared:=⟨boot_heap w.params,#[],boot_drawn,boot_toks,os⟩
theorem pre(w)(os):topGo treeTable bO w 11 (some<|.ref 6) 12 (tN w os) (topStub bO)=some ((St w 15 9 0 187 (ad "__main__" 164) jL [] [] os).abs,⟨denote treeTable<|ig bd,ig bd,⟨0,0,0,0⟩,fr⟩):=by rw[Fast.te15667345088766844465,Fast.te14364793385576792824,Fast.te11892475500146522536];kernel_rfl
theorem od(w)(os):segRunT treeTable bO w 11 (some<|.ref 6) 1 1 (St w 15 9 0 187 (ad "__main__" 164) jL [] [] os) (blockOf bd env (ig bd) ⟨0,0,0,0⟩ fr)=some (.next,St w 15 9 0 187 (ad "__main__" 164) jL [] [] os,ig bd,⟨0,0,0,0⟩):=dq (by kernel_rfl)
theorem zv:bd=jM 0:=by kernel_rfl
theorem zw(w)(os):(St w 15 9 0 187 (ad "__main__" 164) jL [] [] os).abs=(St w 15 9 0 187 (ad "__main__" 164) jL [.ref 51,.ref 63] c6 os).abs:=by kernel_rfl
theorem zx(w)(os):topRun treeTable bO w 11 (some<|.ref 6) 6171 (tN w os) (topStub bO)=some (SL w os).abs:=by have k:topRun _ _ _ _ _ _ _ _=_:=zu bO bd w os;rw[<-zv,<-zw]at k;have:=go_top (n:=12) (N:=6159) (pre w os)<|piece_block (n:=1) (N:=6158) (segRun_of<|od w os) k;exact this
noncomputable abbrev kO:OpenLaw:=PySem.Challenge.rw_pb0576_01
theorem bq:sreFenced bO.main=true:=by rw[Fast.te11788848310118352699];kernel_rfl
theorem eq:((moduleNames bO.main.body).isEmpty||lookedIntoSs (moduleNames bO.main.body) bO.main.body)=true:=by rw[Fast.te9807087744658564304];kernel_rfl
theorem gI:namesResolve bO=true:=by rw[Fast.te8377067652309620493];kernel_rfl
theorem qq:(bO.boundNames.all fun n=>!worldNames.contains n)=true:=by rw[Fast.te18344453789297297638];kernel_rfl
theorem wv:readsOut bO bO.main.body "vars"=false:=by rw[Fast.te13343964577679436407];kernel_rfl
theorem zy:readsOut bO bO.main.body "dir"=false:=by rw[Fast.te13343964577679436407];kernel_rfl
theorem wl:readsOut bO bO.main.body "locals"=false:=by rw[Fast.te13343964577679436407];kernel_rfl
theorem zz:noRoadLSs {strict:=!(importedModules bO.main.body).all cThrough.contains,foot:=none,bare:=(["vars","dir","locals"]:List Str).filter (readsOut bO bO.main.body)} bO.main.body=true:=by rw[show(["vars","dir","locals"]:List Str).filter (readsOut bO bO.main.body)=[] from(filter_cons_of_neg<|ne_true_of_eq_false wv).trans<|(filter_cons_of_neg<|ne_true_of_eq_false zy).trans<|filter_cons_of_neg (ne_true_of_eq_false wl),Fast.te8326940854005059898,Fast.te5923862056798008813];kernel_rfl
theorem zA:(namesMeet bO bO.main.body fun _ n=>attrL n)=true:=by rw[Fast.te17119622794617984870,Fast.te17868728402115742887];kernel_rfl
theorem zB:looksOpen bO=true:=by unfold looksOpen;exact look_both (look_both (look_both (look_both (look_both bq eq) gI) qq) zz) zA
theorem zC:kO.row.partSaid=true:=by
 unfold OpenRow.partSaid
 iterate 13 refine look_both ?_ (by kernel_rfl)
 exact zB
theorem zD:kO.row.wellSaid=true:=by unfold OpenRow.wellSaid;refine look_both (look_both zC ?_) ?_;show bO.boundNames.contains _=true;rw[Fast.te18344453789297297638];kernel_rfl;kernel_rfl
theorem zE:namesMeet kO.prog kO.above (fun _ n=>!kO.own.contains n)=true:=by rw[Fast.te17119622794617984870,Fast.te10792542408131684335];kernel_rfl
theorem ws:kO.wellSaid=true:=by unfold OpenLaw.wellSaid;refine look_both (look_both (look_both (look_both (look_both (look_both (look_both (look_both (look_both (look_both (look_both (look_both (look_both (look_both (look_both (look_both (look_both (look_both zD ?_) ?_) ?_) ?_) ?_) ?_) ?_) ?_) ?_) ?_) ?_) ?_) ?_) ?_) ?_) ?_) ?_) ?_;kernel_rfl;rw[Fast.te10501279942588096481];kernel_rfl;rw[Fast.te8179353310426384613];kernel_rfl;kernel_rfl;kernel_rfl;rw[Fast.te8326940854005059898,Fast.te797321630700447069];kernel_rfl;rw[Fast.te9558739934217749035];kernel_rfl;rw[Fast.te16286561074155671207];kernel_rfl;kernel_rfl;rw[Fast.te797321630700447069,Fast.named_eq];kernel_rfl;kernel_rfl;rw[Fast.te17095254045102204799,Fast.te12879404354523853263];kernel_rfl;rw[Fast.te17119622794617984870];kernel_rfl;rw[Fast.te10792542408131684335];kernel_rfl;rw[Fast.te10792542408131684335];kernel_rfl;rw[Fast.te10792542408131684335,Fast.named_eq];kernel_rfl;exact zE;rw[Fast.te17119622794617984870];kernel_rfl
end Hq
namespace Hq
open PySem PySem.W PySem.Calls PyProof.Rows
noncomputable def lo:List Str:=(["_wall","TclFault","Misused","OutOfFuel","Raised","Nest","Pause","error","wrong_args","listing","pick","run_sub","cut","note_row","end_return","end_proc","is_blank","digit","digits_value","base_of","whole_of","need_whole","bool_of","need_bool","hex_sign","octal_sign","backslash","check_behind","braced_element","quoted_element","bare_element","find_element","split_list","mode_of","escaped","quote","join_list","dict_fault","dict_of","text_of_dict","unknown_key","get_path","open_path","close_path","set_path","unset_path","in_set","behind_one","put_places","folded","fits","put_pairs","dict_create","dict_replace","dict_remove","dict_merge","dict_get","dict_default","dict_exists","dict_size","dict_keys","dict_values","value_of","text_in","dict_append","dict_lappend","dict_incr","dict_set","dict_unset","two_names","run_pair","dict_for","dict_map","filter_script","fits_one","dict_filter","put_back","run_within","dict_update","dict_with","dict_word_subs","dict_variable_subs","dict_script_subs","dict_subs","dict_commands","Var","Host","no_variable","var_in","put_value","elements_in","pair_of","act","SmallHost","_law_signs","_law_drawn","_law_short","_law_number","_law_cell","_law_run","_law_try","_law_on","_law_left","_law_within","_law_paths","_law_steps","_law_loops","_law_filters","_law_opens"]:List String).map Str.ofString
def bx:Program:={bO with main:={bO.main with body:=[dD 119]}}
def g8(p:Params):Heap:=absHeap (TT p 119 330 g6 (dg p) [.ref 51,.ref 63] c6) 1056 {}
theorem zF(w:World)(os):(staticsOk (importedModules bO.main.body) (boot_heap w.params) (g8 w.params)&&namesBound bO (g8 w.params)&&gensDone ⟨g8 w.params,#[],{},1682,os⟩&&laidKept (boot_heap w.params) (g8 w.params))=true:=by refine look_both (look_both (look_both ?_ ?_) ?_) ?_;rw[Fast.te5923862056798008813];kernel_rfl;unfold namesBound;rw[Fast.te18344453789297297638];kernel_rfl;kernel_rfl;kernel_rfl
theorem zG(w:World)(os):openSeen bx lo (importedModules bO.main.body) (fun _=>true) true ⟨g8 w.params,#[],{},1682,os⟩=openGood bx lo:=by rw[Fast.te4187177175401517315,Fast.te5923862056798008813];kernel_rfl
theorem zH(w:World):((boot_heap w.params).isNs mainGlobals&&(#[]:Array GenState).size==0,(boot_heap w.params).objs.size,(boot_heap w.params).nsMap mainGlobals "__annotations__")=(true,11,some<|.ref 6):=by kernel_rfl
theorem zI:opening bO=plainProg bO.main.scope.names:=by kernel_rfl
theorem zJ:∀s,fenceModules? bO s=some s:=fun s=>by kernel_rfl
theorem zK(w)(os):topRun treeTable bO w 11 (some<|.ref 6) 6171 ⟨boot_heap w.params,#[],boot_drawn,boot_toks,os⟩ (topStub bO)=some ⟨g8 w.params,#[],{},1682,os⟩:=by
 have:=zx w os;have e:(SL w os).abs=⟨g8 w.params,#[],{},1682,os⟩:=by kernel_rfl
 rw[e]at this;exact this
theorem zL:LeftO bO bx lo (fun _=>true) (fun s=>s.heap) (fun w=>g8 w.params) 7000:=
 LeftO.of_pieces (boot_open zI (by decide) zJ) zH zK (by decide) fun w=>funext fun os=>looks_pair (zF w os)<|looks_pair (zG w os) rfl
noncomputable def oe(t:BT):aa->Frag|[]=>[]|i::r=>(i,(t.get i).getD default)::oe t r
abbrev K0(p:Params):Frag:=oe (e7 p)<|List.range 1056
theorem zM{t}{a:Nat}{o}:∀l:aa,(oe t l).lookup a=some o->a∈l/\(t.get a).getD default=o:=by
 intro l;induction l with
 |nil=>intro h;exact nomatch h
 |cons i r ab=>
  intro h;have h:List.lookup a ((i,(t.get i).getD default)::oe t r)=some o:=h;rw[lookup_cons]at h;by_cases q:(a==i)=true
  .rw[q]at h;have:a=i:=by simpa using q
   subst this;cases h;exact⟨.head _,rfl⟩
  .have:(a==i)=false:=by simpa using q
   rw[this]at h;exact⟨.tail _ (ab h).1,(ab h).2⟩
noncomputable def qr(t:BT):aa->Bool|[]=>true|i::r=>((t.get i).bind alive).isSome&&qr t r
theorem zN{t a}{l:aa}(h:qr t l=true)(Y:a∈l):∃o,t.get a=some o/\alive o=some o:=by
 induction l with
 |nil=>trivial
 |cons i r ab=>
  have h:=Bool.and_eq_true_iff.mp h;cases Y with
  |tail _ q=>exact ab h.2 q
  |head=>
   have h:=h.1;cases Z:t.get a with
   |none=>rw[Z]at h;exact nomatch h
   |some x=>
    rw[Z]at h;refine⟨x,rfl,?_⟩;have h:(alive x).isSome=true:=h;revert h;obtain⟨c,e,d,s⟩:=x;cases d with
    |freed=>exact fun h=>Bool.noConfusion (show false=true from h)
    |_=>exact fun O=>rfl
theorem zO(p):qr (e7 p) (List.range 1056)=true:=by kernel_rfl
theorem s3(p):(e7 p).get 3=some (jK p 119 g6):=by kernel_rfl
theorem qs(p):(e7 p).get 12=some (kN 330):=by kernel_rfl
theorem s2(p):(e7 p).get 2=some (dg p):=by kernel_rfl
theorem zP(p):(e7 p).get 38=some (qn [.ref 51,.ref 63]):=by kernel_rfl
theorem zQ(p):(e7 p).get 782=some (tL c6):=by kernel_rfl
theorem set_same{t:BT}{a i x}(e:t.get a=some x):(t.set a fun _=>x).get i=t.get i:=by rw[BT.get_set];split;rename_i q;subst q;rw[e];rfl;rfl
theorem zR(p)(i):(TT p 119 330 g6 (dg p) [.ref 51,.ref 63] c6).get i=(e7 p).get i:=by unfold TT;have Z:∀i,((e7 p).set 3 fun _=>jK p 119 g6).get i=(e7 p).get i:=fun i=>set_same<|s3 p;have Y:∀i,(((e7 p).set 3 fun _=>jK p 119 g6).set 12 fun _=>kN 330).get i=(e7 p).get i:=fun i=>(set_same<|(Z _).trans<|qs p).trans<|Z i;have X:∀i,((((e7 p).set 3 fun _=>jK p 119 g6).set 12 fun _=>kN 330).set 2 fun _=>dg p).get i=(e7 p).get i:=fun i=>(set_same<|(Y _).trans<|s2 p).trans<|Y i;have W:∀i,(((((e7 p).set 3 fun _=>jK p 119 g6).set 12 fun _=>kN 330).set 2 fun _=>dg p).set 38 fun _=>qn [.ref 51,.ref 63]).get i=(e7 p).get i:=fun i=>(set_same<|(X _).trans<|zP p).trans<|X i;exact(set_same<|(W _).trans<|zQ p).trans<|W i
theorem zS(p):(K0 p).In (g8 p):=fun a o h=>by obtain⟨Y,Z⟩:=zM _ h;obtain⟨x,X,W⟩:=zN (zO p) Y;rw[X]at Z;have Z:x=o:=Z;subst Z;have:=abs_get (life:={}) (n:=1056) (mem_range.mp Y)<|(zR p a).trans X;exact this.trans W
def dL:DefRec:=⟨e6<|dD 119,l2<|dD 119,n9<|dD 119,oa<|dD 119,match dD 119 with|.FunctionDef _ _ _ _ _ _ _ _ _ p=>p|_=>⟨0,0,0,0⟩⟩
noncomputable abbrev ih:OpenRow:=PySem.Challenge.rw_pb0576_01.row
theorem zT:defOf bx ih.name=some (dL,[]):=by kernel_rfl
theorem d2:ih.prog.theDef ih.name=some (dL.params,dL.body,dL.scope):=by kernel_rfl
theorem g9:kwWritten? dL.params.kwonlyargs dL.params.kw_defaults=some []:=by kernel_rfl
theorem qt:(chainsOk bx&&opensWell ih.prog&&(frees ih.toRowW&&ih.toRowW.within.isEmpty))=true:=by kernel_rfl
open TablesWhole
theorem zU{t c s}(r:List Stmt) l:wSs holds t c s (l++r)=(wSs holds t c s l&&wSs holds t c s r):=by
 induction l with
 |nil=>rfl
 |cons a l ab=>exact(bn (wS holds t c s a&&·) ab).trans (Bool.and_assoc ..).symm
abbrev jN:=bO.main.scope
abbrev kP l:=wSs holds jN ⟨jN,[],[],[],none⟩ jN l=true
theorem tO(k:Nat){l}(a:kP (l.take k))(b:kP (l.drop k)):kP l:=(a4 (take_append_drop k l).symm).trans<|(zU ..).trans<|look_both a b
theorem t0:wSs gather jN ⟨jN,[],[],[],none⟩ jN bO.main.body=[]:=by kernel_rfl
theorem t1:noTwice jN=true:=by kernel_rfl
theorem bA:kP (bO.main.body.take 50):=by kernel_rfl
theorem t3:kP ((bO.main.body.drop 50).take 30):=by kernel_rfl
theorem ii:kP ((bO.main.body.drop 50).drop 30):=by kernel_rfl
theorem og:ih.prog.bare:=⟨rfl,rfl,rfl,rfl,rfl,by show bO.tablesWhole=true;unfold Program.tablesWhole wProgram wModule;rw[show bO.modules=[] from rfl,show bO.parses=[] from rfl,show bO.harvested=[] from rfl];dsimp only;rw[t0,t1,tO 50 bA<|tO 30 t3 ii];rfl⟩
theorem zV:PySem.Challenge.rw_pb0576_01.row.toRowW.promised:=by w_witness2
theorem hd0(call:WalkO bx lo (fun _ _=>True) (fun w h=>(K0 w.params).In h) ih.toRowW dL [] fun f ad=>PySem.call f ad):PySem.Challenge.rw_pb0576_01.Holds:=
 holds_law ws fun Z=>PySem.W.holds_open (r:=ih) (q:=bx) (loose:=lo) (Xt:=fun _=>true) (XP:=fun _ _=>True) (Yf:=fun s=>s.heap) (Ya:=fun w=>g8 w.params) (YP:=fun w h=>(K0 w.params).In h) (N:=7000) zL
  (fun w s e=>by have e:s.heap=g8 w.params:=e;rw[e];exact zS w.params) (fun w h Y x k=>Frag.In.keeps x k) (fun _ _=>trivial) (fun _ _ _ _ _=>trivial) zT d2 g9 (fun s e=>recFacts_of<|by kernel_rfl) rfl Z qt og zV call
end Hq
inductive bs{X W:Type}(p:X->W->Prop):Prop where
 |mk (V:X) (T:W) (h:p V T)
inductive cP{X W V:Type}(p:X->W->V->Prop):Prop where
 |mk (T:X) (R:W) (Q:V) (h:p T R Q)
inductive er{X W V T:Type}(p:X->W->V->T->Prop):Prop where
 |mk (R:X) (Q:W) (P:V) (O:T) (h:p R Q P O)
inductive gJ{X W V T R:Type}(p:X->W->V->T->R->Prop):Prop where
 |mk (Q:X) (P:W) (O:V) (N:T) (M:R) (h:p Q P O N M)
inductive ha{X W V T R Q:Type}(p:X->W->V->T->R->Q->Prop):Prop where
 |mk (P:X) (O:W) (N:V) (M:T) (L:R) (K:Q) (h:p P O N M L K)
inductive ij{X W V T R Q P:Type}(p:X->W->V->T->R->Q->P->Prop):Prop where
 |mk (O:X) (N:W) (M:V) (L:T) (K:R) (I:Q) (H:P) (h:p O N M L K I H)
inductive iU{X W V T R Q P O N:Type}(p:X->W->V->T->R->Q->P->O->N->Prop):Prop where
 |mk (M:X) (L:W) (K:V) (I:T) (H:R) (G:Q) (F:P) (E:O) (D:N) (h:p M L K I H G F E D)
inductive ct(X W V:Prop):Prop where
 |mk (T:X) (R:W) (Q:V)
inductive cQ(X W V T:Prop):Prop where
 |mk (R:X) (Q:W) (P:V) (O:T)
inductive eE(X W V T R:Prop):Prop where
 |mk (Q:X) (P:W) (O:V) (N:T) (M:R)
inductive fI(X W V T R Q:Prop):Prop where
 |mk (P:X) (O:W) (N:V) (M:T) (L:R) (K:Q)
inductive fm(X W V T R Q P:Prop):Prop where
 |mk (O:X) (N:W) (M:V) (L:T) (K:R) (I:Q) (H:P)
inductive hb(X W V T R Q P O:Prop):Prop where
 |mk (N:X) (M:W) (L:V) (K:T) (I:R) (H:Q) (G:P) (F:O)
inductive kQ(X W V T R Q P O N:Prop):Prop where
 |mk (M:X) (L:W) (K:V) (I:T) (H:R) (G:Q) (F:P) (E:O) (D:N)
inductive oh(X W V T R Q P O N M:Prop):Prop where
 |mk (L:X) (K:W) (I:V) (H:T) (G:R) (F:Q) (E:P) (D:O) (C:N) (B:M)
inductive dk{A:Type}(p q:A->Prop):Prop where
 |mk (x:A) (X:p x) (W:q x)
theorem bs.elim{Z Y}{p:Z->Y->Prop}{G:Prop}(e:bs p)(k:∀X W,p X W->G):G:=@bs.rec Z Y p (fun O=>G) k e
theorem cP.elim{Z Y X}{p:Z->Y->X->Prop}{G:Prop}(e:cP p)(k:∀W V U,p W V U->G):G:=@cP.rec Z Y X p (fun O=>G) k e
theorem er.elim{Z Y X W}{p:Z->Y->X->W->Prop}{G:Prop}(e:er p)(k:∀V U T S,p V U T S->G):G:=@er.rec Z Y X W p (fun O=>G) k e
theorem gJ.elim{Z Y X W V}{p:Z->Y->X->W->V->Prop}{G:Prop}(e:gJ p)(k:∀U T S R Q,p U T S R Q->G):G:=@gJ.rec Z Y X W V p (fun O=>G) k e
theorem ha.elim{Z Y X W V U}{p:Z->Y->X->W->V->U->Prop}{G:Prop}(e:ha p)(k:∀T S R Q P N,p T S R Q P N->G):G:=@ha.rec Z Y X W V U p (fun O=>G) k e
theorem ij.elim{Z Y X W V U T}{p:Z->Y->X->W->V->U->T->Prop}{G:Prop}(e:ij p)(k:∀S R Q P N M L,p S R Q P N M L->G):G:=@ij.rec Z Y X W V U T p (fun O=>G) k e
theorem iU.elim{Z Y X W V U T S R}{p:Z->Y->X->W->V->U->T->S->R->Prop}{G:Prop}(e:iU p)(k:∀Q P N M L K J I H,p Q P N M L K J I H->G):G:=@iU.rec Z Y X W V U T S R p (fun O=>G) k e
theorem ct.elim{Z Y X G:Prop}(e:ct Z Y X)(k:Z->Y->X->G):G:=@ct.rec Z Y X (fun O=>G) k e
theorem cQ.elim{Z Y X W G:Prop}(e:cQ Z Y X W)(k:Z->Y->X->W->G):G:=@cQ.rec Z Y X W (fun O=>G) k e
theorem eE.elim{Z Y X W V G:Prop}(e:eE Z Y X W V)(k:Z->Y->X->W->V->G):G:=@eE.rec Z Y X W V (fun O=>G) k e
theorem fI.elim{Z Y X W V U G:Prop}(e:fI Z Y X W V U)(k:Z->Y->X->W->V->U->G):G:=@fI.rec Z Y X W V U (fun O=>G) k e
theorem fm.elim{Z Y X W V U T G:Prop}(e:fm Z Y X W V U T)(k:Z->Y->X->W->V->U->T->G):G:=@fm.rec Z Y X W V U T (fun O=>G) k e
theorem hb.elim{Z Y X W V U T S G:Prop}(e:hb Z Y X W V U T S)(k:Z->Y->X->W->V->U->T->S->G):G:=@hb.rec Z Y X W V U T S (fun O=>G) k e
theorem kQ.elim{Z Y X W V U T S R G:Prop}(e:kQ Z Y X W V U T S R)(k:Z->Y->X->W->V->U->T->S->R->G):G:=@kQ.rec Z Y X W V U T S R (fun O=>G) k e
theorem oh.elim{Z Y X W V U T S R Q G:Prop}(e:oh Z Y X W V U T S R Q)(k:Z->Y->X->W->V->U->T->S->R->Q->G):G:=@oh.rec Z Y X W V U T S R Q (fun O=>G) k e
theorem dk.elim{A}{p q:A->Prop}{G:Prop}(e:dk p q)(k:∀x,p x->q x->G):G:=@dk.rec A p q (fun O=>G) k e
theorem no{aq}{C:Prop}{a}(h:(none:Option aq)=some a):C:=nomatch h
theorem fo{aq}{a:aq}:¬none=some a:=nofun
theorem kR{aq}{a:aq}:¬some a=none:=nofun
theorem dr{aq ck}{f:aq->ck}{l:List aq}{k}(h:l.length<=k):(l.map f).length<=k:=by rw[length_map];exact h
theorem qu{aq ck Z}{f:aq->ck}{g}{l:List Z}{k}(h:l.length<=k):((l.map g).map f).length<=k:=dr<|dr h
theorem l6{aq l}{x:aq}:(l++[x]).length=l.length+1:=length_append
theorem ik{aq l r}{x:aq}{k}(h:k<=l.length):k+1<=(l++x::r).length:=by rw[length_append];exact add_le_add h<|succ_le_succ<|zero_le _
theorem cw{aq l r}{x:aq}:x∈l++x::r:=mem_append_right _ mem_cons_self
@[elab_as_elim]theorem Z{aq b}{P:aq->Prop}{a}(h:a=b)(k:P b):P a:=h▸k
@[elab_as_elim]theorem aW{aq b}{P:aq->Prop}{a}(h:b=a)(k:P b):P a:=h▸k
set_option genInjectivity false in
inductive L where
 |gK (i:Nat)|e8 (k:Nat)|fJ (x y:L)|gj (k:Nat) (x:L)|fp (x:L) (k:Nat)|il (x:L)
noncomputable def L.at:aa->Nat->Nat|[],_=>0|x::_,0=>x|_::t,i+1=>L.at t i
noncomputable def L.d(c:aa):L->Nat|gK i=>L.at c i|e8 k=>k|fJ x y=>x.d c+y.d c|gj k x=>k*x.d c|fp x k=>x.d c*k|il x=>x.d c
noncomputable def L.z(c:aa):L->Int|gK i=>((L.at c i:Nat):Int)|e8 k=>((k:Nat):Int)|fJ x y=>x.z c+y.z c|gj k x=>((k:Nat):Int)*x.z c|fp x k=>x.z c*((k:Nat):Int)|il x=>((x.d c:Nat):Int)
theorem L.f0(c):∀x:L,x.z c=((x.d c:Nat):Int)
 |gK i=>rfl
 |e8 k=>rfl
 |fJ x y=>by show x.z c+y.z c=((x.d c+y.d c:Nat):Int);rw[f0 c x,f0 c y];rfl
 |gj k x=>by show(k:Int)*x.z c=((k*x.d c:Nat):Int);rw[f0 c x];rfl
 |fp x k=>by show x.z c*(k:Int)=((x.d c*k:Nat):Int);rw[f0 c x];rfl
 |il x=>rfl
noncomputable def L.c(i:Nat):L->Nat
 |gK j=>match Nat.beq i j with|true=>1|false=>0
 |e8 _=>0
 |fJ x y=>x.c i+y.c i
 |gj k x=>k*x.c i
 |fp x k=>x.c i*k
 |il x=>x.c i
noncomputable def L.k:L->Nat|gK _=>0|e8 k=>k|fJ x y=>x.k+y.k|gj k x=>k*x.k|fp x k=>x.k*k|il x=>x.k
noncomputable def L.dot(e:L):aa->Nat->Nat|[],_=>0|x::t,i=>x*e.c i+L.dot e t (i+1)
theorem L.zW(j:Nat):∀(c:aa)(i:Nat),(i<=j->L.dot (gK j) c i=L.at c (j-i))/\(j<i->L.dot (gK j) c i=0):=by
 intro c;induction c with
 |nil=>intro i;exact⟨fun O=>by cases j-i<;>rfl,fun O=>rfl⟩
 |cons x t ab=>
  intro i;have ab:=ab<|i+1;constructor
  .intro h;rcases Nat.lt_or_eq_of_le h with g|g
   .have e:j-i=(j-(i+1))+1:=by rw[<-Nat.sub_sub,Nat.sub_add_cancel<|Nat.sub_pos_of_lt g]
    have b:Nat.beq i j=false:=by cases q:Nat.beq i j with|false=>rfl|true=>exact absurd (eq_of_beq_eq_true q)<|ne_of_lt g
    show x*(match Nat.beq i j with|true=>1|false=>0)+L.dot (gK j) t (i+1)=_;rw[b,ab.1 g,e,Nat.mul_zero,Nat.zero_add];rfl
   .subst g;show x*(match Nat.beq i i with|true=>1|false=>0)+L.dot (gK i) t (i+1)=_;rw[beq_refl,ab.2<|lt_succ_self _,Nat.sub_self,Nat.mul_one];rfl
  .intro h;have b:Nat.beq i j=false:=by cases q:Nat.beq i j with|false=>rfl|true=>exact absurd (eq_of_beq_eq_true q)<|Nat.ne_of_gt h
   show x*(match Nat.beq i j with|true=>1|false=>0)+L.dot (gK j) t (i+1)=_;rw[b,ab.2<|lt_succ_of_lt h];rfl
theorem L.zX(k:Nat):∀(c:aa)(i:Nat),L.dot (e8 k) c i=0:=by
 intro c;induction c with
 |nil=>intro O;exact rfl
 |cons x t ab=>intro i;show x*0+L.dot (e8 k) t (i+1)=0;rw[ab];rfl
theorem L.zY(e f:L):∀(c:aa)(i:Nat),L.dot (fJ e f) c i=L.dot e c i+L.dot f c i:=by
 intro c;induction c with
 |nil=>intro O;exact rfl
 |cons x t ab=>intro i;show x*(e.c i+f.c i)+L.dot (fJ e f) t (i+1)=(x*e.c i+L.dot e t (i+1))+(x*f.c i+L.dot f t (i+1));rw[ab,Nat.mul_add];exact Nat.add_add_add_comm _ _ _ _
theorem L.zZ(k:Nat)(e:L):∀(c:aa)(i:Nat),L.dot (gj k e) c i=k*L.dot e c i:=by
 intro c;induction c with
 |nil=>intro O;exact rfl
 |cons x t ab=>intro i;show x*(k*e.c i)+L.dot (gj k e) t (i+1)=k*(x*e.c i+L.dot e t (i+1));rw[ab,Nat.mul_add,Nat.mul_left_comm]
theorem L.z0(k:Nat)(e:L):∀(c:aa)(i:Nat),L.dot (fp e k) c i=L.dot e c i*k:=by
 intro c;induction c with
 |nil=>intro O;exact(Nat.zero_mul k).symm
 |cons x t ab=>intro i;show x*(e.c i*k)+L.dot (fp e k) t (i+1)=(x*e.c i+L.dot e t (i+1))*k;rw[ab,Nat.add_mul,Nat.mul_assoc]
theorem L.z1(e:L):∀(c:aa)(i:Nat),L.dot (il e) c i=L.dot e c i:=by
 intro c;induction c with
 |nil=>intro O;exact rfl
 |cons x t ab=>intro i;show x*e.c i+L.dot (il e) t (i+1)=_;rw[ab];rfl
theorem L.jO(c):∀e:L,e.d c=L.dot e c 0+e.k
 |gK j=>by show L.at c j=_+0;rw[(zW j c 0).1<|zero_le _];rfl
 |e8 k=>by rw[zX];exact(Nat.zero_add k).symm
 |fJ x y=>by show x.d c+y.d c=_+(x.k+y.k);rw[jO c x,jO c y,zY];exact Nat.add_add_add_comm _ _ _ _
 |gj k x=>by show k*x.d c=_+k*x.k;rw[jO c x,zZ,Nat.mul_add]
 |fp x k=>by show x.d c*k=_+x.k*k;rw[jO c x,z0,Nat.add_mul]
 |il x=>by show x.d c=_+x.k;rw[jO c x,z1]
set_option genInjectivity false in
structure L.H where
 t:Nat
 m:Nat
 x:L
 y:L
set_option genInjectivity false in
structure L.R where
 P:aa->L->L->Prop
 lo:L->L->L
 aj:L->L->L
 nl:L->L->L
 tP:L->L->L
 g:Bool
 ok:∀{c x y},P c x y->(lo x y).d c<=(aj x y).d c
 no:∀{c x y},¬(nl x y).d c<=(tP x y).d c->g=true->P c x y
noncomputable def L.b0(x y:L):L:=x
noncomputable def L.sn(x y:L):L:=y
noncomputable def L.f1(x y:L):L:=.fJ x<|.e8 1
noncomputable def L.s1(x y:L):L:=.fJ y<|.e8 1
theorem L.tQ{a b:Nat}:-(a:Int)<(b:Int)↔0<a+b:=⟨fun h=>Int.ofNat_lt.mp (show(0:Int)<(a:Int)+b from Int.add_right_neg (a:Int)▸Int.add_lt_add_left h a),fun h=>Int.lt_of_add_lt_add_left (a:=a)<|Z (Int.add_right_neg (a:Int))<|Int.ofNat_lt.mpr h⟩
theorem L.oi{c}{x y:L}:x.z c<=y.z c↔x.d c<=y.d c:=by rw[f0,f0];exact Int.ofNat_le
theorem L.oj{c}{x y:L}:x.z c<y.z c↔x.d c<y.d c:=by rw[f0,f0];exact Int.ofNat_lt
theorem L.tR{c}{x y:L}:x.z c=y.z c->x.d c=y.d c:=by rw[f0,f0];exact Int.ofNat_inj.mp
theorem L.jP{P:Prop}(h:false=true):P:=nomatch h
def L.dE:L.R:=⟨fun O O O=>False,L.b0,L.sn,fun O O=>.e8 0,fun O O=>.e8 0,true,fun h=>h.elim,fun h O=>absurd (Nat.le_refl 0) h⟩
def L.tab:List L.R:=[
 ⟨fun c x y=>x.d c<=y.d c,L.b0,L.sn,L.s1,L.b0,true,fun q=>q,fun q O=>Nat.le_of_not_lt q⟩,
 ⟨fun c x y=>x.d c<y.d c,L.f1,L.sn,L.sn,L.b0,true,fun q=>q,fun q O=>Nat.lt_of_not_le q⟩,
 ⟨fun c x y=>x.d c=y.d c,L.b0,L.sn,L.b0,L.b0,false,fun q=>Nat.le_of_eq q,fun O h=>L.jP h⟩,
 ⟨fun c x y=>x.d c=y.d c,L.sn,L.b0,L.b0,L.b0,false,fun q=>Nat.le_of_eq q.symm,fun O h=>L.jP h⟩,
 ⟨fun c x y=>¬x.d c<y.d c,L.sn,L.b0,L.f1,L.sn,true,fun q=>Nat.le_of_not_lt q,fun q O=>q⟩,
 ⟨fun c x y=>¬x.d c<=y.d c,L.s1,L.b0,L.b0,L.sn,true,fun q=>Nat.lt_of_not_le q,fun q O=>q⟩,
 ⟨fun c x y=>x.z c<=y.z c,L.b0,L.sn,L.s1,L.b0,true,fun q=>L.oi.mp q,fun q O=>L.oi.mpr<|Nat.le_of_not_lt q⟩,
 ⟨fun c x y=>x.z c<y.z c,L.f1,L.sn,L.sn,L.b0,true,fun q=>L.oj.mp q,fun q O=>L.oj.mpr<|Nat.lt_of_not_le q⟩,
 ⟨fun c x y=>x.z c=y.z c,L.b0,L.sn,L.b0,L.b0,false,fun q=>Nat.le_of_eq<|L.tR q,fun O h=>L.jP h⟩,
 ⟨fun c x y=>x.z c=y.z c,L.sn,L.b0,L.b0,L.b0,false,fun q=>Nat.le_of_eq (L.tR q).symm,fun O h=>L.jP h⟩,
 ⟨fun c x y=>¬x.z c<y.z c,L.sn,L.b0,L.f1,L.sn,true,fun q=>Nat.le_of_not_lt fun g=>q<|L.oj.mpr g,fun q O g=>q<|L.oj.mp g⟩,
 ⟨fun c x y=>¬x.z c<=y.z c,L.s1,L.b0,L.b0,L.sn,true,fun q=>Nat.lt_of_not_le fun g=>q<|L.oi.mpr g,fun q O g=>q<|L.oi.mp g⟩,
 ⟨fun c x y=>x.d c>y.d c,L.s1,L.b0,L.b0,L.sn,true,fun q=>q,fun q O=>Nat.lt_of_not_le q⟩,
 ⟨fun c x y=>x.d c>=y.d c,L.sn,L.b0,L.f1,L.sn,true,fun q=>q,fun q O=>Nat.le_of_not_lt q⟩,
 L.dE,
 ⟨fun c x y=>-x.z c<y.z c,fun O O=>.e8 1,.fJ,.fJ,fun O O=>.e8 0,true,fun{c x y} q=>by rw[f0,f0]at q;exact L.tQ.mp q,fun{c x y} q O=>by rw[f0,f0];exact L.tQ.mpr<|Nat.lt_of_not_le q⟩]
noncomputable def L.row:List L.R->Nat->L.R|[],_=>L.dE|r::_,0=>r|_::l,n+1=>L.row l n
def L.H.r(h:L.H):L.R:=L.row L.tab h.t
def L.H.P(c:aa)(h:L.H):Prop:=h.r.P c h.x h.y
noncomputable def L.H.p(h:L.H):L×L:=(h.r.lo h.x h.y,h.r.aj h.x h.y)
noncomputable def L.H.no(h:L.H):L×L:=(h.r.nl h.x h.y,h.r.tP h.x h.y)
noncomputable def L.le(x y:L):Nat->Bool|0=>true|n+1=>Nat.ble (x.c n) (y.c n)&&L.le x y n
def L.et(n:Nat)(x y:L):Bool:=Nat.blt y.k x.k&&L.le y x n
noncomputable def L.good(h:L.H):Bool:=h.r.g
theorem L.H.z2{c}{h:L.H}(q:h.P c):h.p.1.d c<=h.p.2.d c:=h.r.ok q
theorem L.H.z3{c h}(q:¬h.no.1.d c<=h.no.2.d c)(g:L.good h=true):h.P c:=h.r.no q g
theorem L.z4{x y}(c):∀(n i:Nat),(∀j,j<n->x.c j<=y.c j)->i+c.length<=n->L.dot x c i<=L.dot y c i:=by
 induction c with
 |nil=>exact fun O O O O=>Nat.le_refl _
 |cons a t ab=>intro n i h g;have g:i+(t.length+1)<=n:=g;exact add_le_add (mul_le_mul_left a<|h i<|Nat.lt_of_lt_of_le (Nat.lt_add_of_pos_right<|succ_pos _) g)<|ab n (i+1) h<|by rw[Nat.add_right_comm];exact g
theorem L.z5{x y}(n):L.le x y n=true->∀j,j<n->x.c j<=y.c j:=by
 induction n with
 |zero=>exact fun O j g=>absurd g<|not_lt_zero _
 |succ n ab=>intro h j g;have h:=Bool.and_eq_true_iff.mp h;exact(Nat.lt_or_eq_of_le<|le_of_lt_succ g).elim (ab h.2 j) fun e=>Z e<|a1 h.1
theorem L.z6{c x y}(h:L.et c.length x y=true)(g:x.d c<=y.d c):False:=by have h:=Bool.and_eq_true_iff.mp h;rw[jO,jO]at g;exact Nat.not_lt_of_le g<|Nat.add_lt_add_of_le_of_lt (z4 c _ 0 (z5 _ h.2)<|Nat.le_of_eq<|Nat.zero_add _)<|a1 h.1
noncomputable def L.iV{aq:Type}(n:Nat)(k:Nat->aq):aq:=Nat.rec (k 0) (fun m O=>k<|m+1) n
theorem L.jQ{aq}(n)(k:Nat->aq):L.iV n k=k n:=by cases n<;>rfl
def L.lit{aq:Type}(n:Nat)(k:Nat->Nat->aq):aq:=L.iV (n/128%2^(n%128)) fun i=>L.iV (n/128/2^(n%128)) fun n=>k i n
def L.F:Type 1:=∀aq:Type,(L->Nat->aq)->aq
noncomputable def L.alt(a b c d e g:L.F)(t:Nat):L.F:=Nat.rec a (fun t O=>Nat.rec b (fun t O=>Nat.rec c (fun t O=>Nat.rec d (fun t O=>Nat.rec e (fun t O=>g) t) t) t) t) t
noncomputable def L.dec:Nat->Nat->L.F
 |0,n=>fun O k=>k (.e8 0) n
 |f+1,n=>L.alt
  (fun O k=>L.iV (n/8%16) fun i=>L.iV (n/128) fun n=>k (.gK i) n)
  (fun O k=>L.lit (n/8) fun i n=>k (.e8 i) n)
  (fun O k=>L.iV (n/8) fun n=>L.dec f n O fun x n=>L.dec f n O fun y n=>k (.fJ x y) n)
  (fun O k=>L.lit (n/8) fun i n=>L.dec f n O fun x n=>k (.gj i x) n)
  (fun O k=>L.lit (n/8) fun i n=>L.dec f n O fun x n=>k (.fp x i) n)
  (fun O k=>L.iV (n/8) fun n=>L.dec f n O fun x n=>k (.il x) n) (n%8)
def L.l7{aq:Type}(n:Nat)(k:L.H->Nat->aq):aq:=L.iV (n%16) fun t=>L.lit (n/16) fun m n=>L.dec 40 n aq fun x n=>L.dec 40 n aq fun y n=>k ⟨t,m,x,y⟩ n
noncomputable def L.imp(c:aa)(G:Prop):Nat->Nat->Prop|0,_=>G|f+1,n=>L.l7 n fun h n=>h.P c->L.imp c G f n
noncomputable def L.sum:Nat->Nat->L->L->(L->L->Bool)->Bool|0,_,a,b,k=>k a b|f+1,n,a,b,k=>L.l7 n fun h n=>L.sum f n (.fJ (.gj h.m h.p.1) a) (.fJ (.gj h.m h.p.2) b) k
def L.all(c:aa)(n:Nat):Prop:=L.l7 (n/16) fun g r=>L.imp c (g.P c) (n%16) r
def L.gL(l n:Nat):Bool:=L.l7 (n/16) fun g r=>L.good g&&L.sum (n%16) r (.gj g.m g.no.1) (.gj g.m g.no.2) (L.et l)
def L.iW(d:L.F):Prop:=∃x Z,∀aq k,d aq k=k x Z
theorem L.z7{a b c d e g}(Z:L.iW a)(Y:L.iW b)(X:L.iW c)(U:L.iW d)(W:L.iW e)(V:L.iW g)(t):L.iW (L.alt a b c d e g t):=by
 cases t with
 |zero=>exact Z
 |succ t=>
  cases t with
  |zero=>exact Y
  |succ t=>
   cases t with
   |zero=>exact X
   |succ t=>
    cases t with
    |zero=>exact U
    |succ t=>
     cases t with
     |zero=>exact W
     |succ t=>exact V
theorem L.ol{aq}(n)(k:Nat->Nat->aq):L.lit n k=k (n/128%2^(n%128)) (n/128/2^(n%128)):=(L.jQ _ _).trans<|L.jQ _ _
theorem L.tS(f):∀n,L.iW (L.dec f n):=by
 induction f with
 |zero=>exact fun n=>⟨.e8 0,n,fun O O=>rfl⟩
 |succ f ab=>intro n;refine(ab<|n/8).elim fun x h=>h.elim fun X Z=>(ab X).elim fun y h=>h.elim fun V W=>(ab<|n/8/128/2^(n/8%128)).elim fun z h=>h.elim fun U Y=>L.z7 ?_ ?_ ?_ ?_ ?_ ?_ _;exact⟨_,_,fun O k=>(L.jQ _ _).trans<|L.jQ _ _⟩;exact⟨_,_,fun O k=>L.ol _ _⟩;exact⟨_,_,fun O k=>(L.jQ _ _).trans<|(Z _ _).trans<|W _ _⟩;exact⟨_,_,fun O k=>(L.ol _ _).trans<|Y _ _⟩;exact⟨_,_,fun O k=>(L.ol _ _).trans<|Y _ _⟩;exact⟨_,_,fun O k=>(L.jQ _ _).trans<|Z _ _⟩
theorem L.tT(n):∃h Z,∀{aq:Type}(k:L.H->Nat->aq),L.l7 n k=k h Z:=
 (tS 40<|n/16/128/2^(n/16%128)).elim fun x h=>h.elim fun Y X=>(tS 40 Y).elim fun y h=>h.elim fun V W=>⟨_,_,fun k=>(L.jQ _ _).trans<|(L.ol _ _).trans<|(X _ _).trans<|W _ _⟩
theorem L.run{c G}(f):∀(n:Nat)(a b:L),(¬G->a.d c<=b.d c)->L.sum f n a b (L.et c.length)=true->L.imp c G f n:=by
 induction f with
 |zero=>exact fun O a b k h=>Classical.byContradiction fun g=>L.z6 (x:=a) (y:=b) h<|k g
 |succ f ab=>intro n a b k h;exact(tT n).elim fun q e=>e.elim fun r e=>Eq.mpr (e _) fun p=>ab r _ _ (fun g=>show _*_+_<=_*_+_ from add_le_add (mul_le_mul_left _<|L.H.z2 p) (k g))<|(e _).symm.trans h
theorem L.ok{c n}(h:L.gL c.length n=true):L.all c n:=
 (tT<|n/16).elim fun q e=>e.elim fun r e=>Eq.mpr (e _) (have h:=Bool.and_eq_true_iff.mp<|(e _).symm.trans h;L.run _ _ _ _ (fun p=>show _*_<=_*_ from mul_le_mul_left _ (Classical.byContradiction fun z=>p<|L.H.z3 z h.1)) h.2)
theorem qv{n k:Nat}(h:n<=k)(e:Nat.ble k 4611686018427387903=true):(n:Int)<2^62:=Int.lt_of_le_of_lt (Int.ofNat_le.mpr<|bp h<|a1 e)<|aU
theorem cL{n:Nat}:-(2^62)<(n:Int):=Int.lt_of_lt_of_le (aU)<|Int.natCast_nonneg n
theorem af{n m k:Nat}(h:n<=m)(e:Nat.ble m k=true:=by exact lQ):n<=k:=bp h<|a1 e
theorem iX{n m k:Nat}(h:n<=m)(e:Nat.ble (m+1) k=true):n<k:=Nat.lt_of_le_of_lt h<|a1 e
theorem am{n m k j:Nat}(h:n<=m)(e:Nat.ble (m+j) k=true:=by exact lQ):n+j<=k:=bp (Nat.add_le_add_right h j)<|a1 e
theorem cW{n m k i j:Nat}(h:n<=m)(e:Nat.ble (m+i+j) k=true:=by exact lQ):n+i+j<=k:=am (Nat.add_le_add_right h i) e
theorem jR{x k m:Int}(h:x<k)(e:decide (k<=m)=true):x<m:=Int.lt_of_lt_of_le h<|aU e
theorem jS{x k m:Int}(h:k<=x)(e:decide (m<k)=true):m<x:=Int.lt_of_lt_of_le (aU e) h
theorem om{x k m:Int}(h:k<x)(e:decide (m<=k)=true):m<=x:=Int.le_of_lt<|Int.lt_of_le_of_lt (aU e) h
theorem qw{i:Int}{k}(h:i.natAbs<k):-(k:Int)<i:=Int.neg_lt_of_neg_lt<|Int.lt_of_le_of_lt Int.le_natAbs<|Int.ofNat_lt.mpr<|Z (Int.natAbs_neg i) h
theorem qx{i:Int}{k}(h:i.natAbs<k):i<(k:Int):=Int.lt_of_le_of_lt Int.le_natAbs<|Int.ofNat_lt.mpr h
theorem tU{n:Nat}(h:n<=16777216):¬(n:Int)>=2^63:=Int.not_le.mpr<|Int.lt_of_le_of_lt (Int.ofNat_le.mpr h)<|aU
theorem tV{n m}(h:n<=m+1)(e:n≠m+1):n<=m:=le_of_lt_succ<|Nat.lt_of_le_of_ne h e
theorem gap{i j:Nat}(h:(2:Int)<(j:Int)-(i:Int)):i+3<=j:=Int.ofNat_le.mp<|Int.add_le_of_le_sub_left h
theorem z8{i j n:Nat}(h:(2:Int)<(j:Int)-(i:Int))(l:n=j-i):3<=n:=l▸Nat.le_sub_of_add_le' (gap h)
theorem zs{m}:((m+1:Nat):Int)-1=(m:Int):=(show(m:Int)+1-1=m from Int.add_sub_cancel _ _)
theorem oo{a b i j k:Nat}(h:a<=i)(g:b<=j)(e:Nat.ble (i+j) k=true):a+b<=k:=bp (add_le_add h g)<|a1 e
theorem tW{lo aj}:(if lo<aj then aj-lo-1+1 else 0)=((aj-lo).toNat:Int):=by by_cases h:lo<aj;exact(if_pos h).trans<|(Int.sub_add_cancel _ _).trans (Int.toNat_of_nonneg<|Int.sub_nonneg_of_le<|Int.le_of_lt h).symm;exact(if_neg h).trans (bn Nat.cast<|Int.toNat_of_nonpos<|Int.sub_nonpos_of_le<|Int.not_lt.mp h).symm
theorem z9{p w}(g:p<w):w-p=w-(p+1)+1:=by rw[<-Nat.sub_sub,Nat.sub_add_cancel<|Nat.sub_pos_of_lt g]
theorem bt(x y:Nat):x<=x-y+y:=(Nat.le_total y x).elim (fun h=>Nat.le_of_eq (bz h).symm) fun h=>bp h<|le_add_left y _
theorem qy(n:Nat)(h:L.gL 0 n=true:=by kernel_rfl):L.all [] n:=L.ok h
theorem aF{a:Nat}(n:Nat)(h:L.gL 1 n=true:=by kernel_rfl):L.all [a] n:=L.ok h
theorem az{a b:Nat}(n:Nat)(h:L.gL 2 n=true:=by kernel_rfl):L.all [a,b] n:=L.ok h
theorem aT{a b c:Nat}(n:Nat)(h:L.gL 3 n=true:=by kernel_rfl):L.all [a,b,c] n:=L.ok h
theorem bh{a b c d:Nat}(n:Nat)(h:L.gL 4 n=true:=by kernel_rfl):L.all [a,b,c,d] n:=L.ok h
theorem bV{a b c d e:Nat}(n:Nat)(h:L.gL 5 n=true:=by kernel_rfl):L.all [a,b,c,d,e] n:=L.ok h
theorem fK{a b c d e f:Nat}(n:Nat)(h:L.gL 6 n=true:=by kernel_rfl):L.all [a,b,c,d,e,f] n:=L.ok h
theorem gM{a b c d e f g:Nat}(n:Nat)(h:L.gL 7 n=true:=by kernel_rfl):L.all [a,b,c,d,e,f,g] n:=L.ok h
theorem oq{a b c d e f g i:Nat}(n:Nat)(h:L.gL 8 n=true:=by kernel_rfl):L.all [a,b,c,d,e,f,g,i] n:=L.ok h
theorem Aa{Z Y X W V U T S R Q:Nat}(n:Nat)(h:L.gL 10 n=true:=by kernel_rfl):L.all [Z,Y,X,W,V,U,T,S,R,Q] n:=L.ok h
theorem Ab{Y X W V U T S R Q P Z:Nat}(n:Nat)(h:L.gL 11 n=true:=by kernel_rfl):L.all [Y,X,W,V,U,T,S,R,Q,P,Z] n:=L.ok h
section
open PySem
set_option genCtorIdx true in
inductive V where
 |a5|aP (b:Bool)|ae (i:Int)|S (s:aa)|Y (a:Nat)|cg (n:String)|b5 (id:String)|odd
 deriving DecidableEq
noncomputable def toV:Value->V|.none=>.a5|.bool b=>.aP b|.int i _=>.ae i|.str s _=>.S s.cps.toList|.ref a=>.Y a|.type n=>.cg n|.builtin id=>.b5 id|_=>.odd
structure hc where
 ctx:Bool:=false
 b8:Bool:=false
set_option genCtorIdx true in
inductive dM where
 |ag (xs:List V)
 |an (xs:List V)
 |av (es:List (aa×V)) (e:Nat)
 |b2 (es:List (Int×V)) (e:Nat)
 |bK (es:List (aa×V))
 |dt (C d:Nat)
 |bD (C d:Nat) (c:hc)
 |dY (C:Nat)
 |range (lo aj:Int)
 |eF (lo aj st:Int)
abbrev ar:=Nat->Option dM
noncomputable def ar.set(h:ar)(a:Nat)(o:dM):ar:=fun b=>if b=a then some o else h b
structure St where
 l:List (Option V)
 h:ar
inductive eu where
 |startswith|endswith|find|f2|lower|dN|get|pop|bE (n:aa)
set_option genInjectivity false in
inductive a6 where
 |k (v:V)
 |x (i:Nat)
 |aM (X:Operator) (a b:a6)
 |cm (a:a6)
 |eG (a:a6)
 |cR (a b:a6)
 |dF (a b:a6)
 |aA (X:CmpOp) (a b:a6)
 |fq (X T:CmpOp) (a b c:a6)
 |aB (t a b:a6)
 |bW (f:a6) (W:List a6)
 |aZ (o:a6) (n:eu) (W:List a6)
 |ce (o:a6) (n:aa)
 |aE (o i:a6)
 |aJ (o lo aj:a6)
 |an (es:List a6)
 |ag (es:List a6)
 |av (aI:List aa) (es:List a6)
 |gk
set_option genInjectivity false in
inductive cj where
 |bF (e:a6)
 |aG (i:Nat) (e:a6)
 |ev (aO:aa) (e:a6)
 |cn (o:a6) (n:aa) (e:a6)
 |c0 (o i:a6) (e:a6)
 |c1 (i:Nat) (X:Operator) (e:a6)
 |gm (o:a6) (n:aa) (X:Operator) (e:a6)
 |ay (e:a6)
 |ca (e:a6)
 |aB (t:a6) (b o:List cj)
 |dO (t:a6) (b:List cj)
 |b6 (aO:aa) (tup:Bool) (W:a6) (b:List cj)
 |brk
 |pass
 |f3 (b:List cj) (name:Option Nat) (h:List cj)
 |im (b:List cj) (f:List cj)
 |f4 (aO:aa) (tup:Bool) (bI:aa) (W bX:a6) (be:Option a6)
set_option genCtorIdx true in
inductive D where
 |ae (i:Int)|S (s:aa)|an (ds:List D)
mutual
noncomputable def D.beq:D->D->Bool|.ae a,.ae b=>decide (a=b)|.S a,.S b=>decide (a=b)|.an a,.an b=>D.io a b|_,_=>false
noncomputable def D.io:List D->List D->Bool|[],[]=>true|a::r,b::t=>D.beq a b&&D.io r t|_,_=>false
end
mutual
theorem eb:(d:D)->D.beq d d=true
 |.ae a=>(decide_eq_true rfl:decide (a=a)=true)
 |.S a=>(decide_eq_true rfl:decide (a=a)=true)
 |.an ds=>D.tX ds
theorem D.tX:(ds:List D)->D.io ds ds=true
 |[]=>rfl
 |d::r=>(Bool.and_eq_true_iff.mpr ⟨eb d,D.tX r⟩:(D.beq d d&&D.io r r)=true)
end
mutual
noncomputable def D.ok:D->D->Bool|.ae _,.ae _=>true|.S _,.S _=>true|.an a,.an b=>D.iY a b|_,_=>false
noncomputable def D.iY:List D->List D->Bool|[],_=>true|_,[]=>true|a::r,b::t=>D.ok a b&&D.iY r t
end
noncomputable def gn{aq:Type}:List (Option aq)->Option (List aq)|[]=>some []|some a::r=>(gn r).map (a::·)|none::_=>none
theorem Ac:∀{aq:Type}(a:aq)(r:List (Option aq)),gn (some a::r)=Option.map (fun(x:List aq)=>a::x) (gn r):=by intros;rfl
noncomputable def dat:Nat->ar->V->Option D
 |_,_,.ae i=>some<|.ae i
 |_,_,.S s=>some<|.S s
 |n+1,h,.Y a=>match h a with|some (.an xs)=>(gn<|xs.map<|dat n h).map .an|_=>none
 |_,_,_=>none
noncomputable def aH{aq:Type}(n:aa):List (aa×aq)->Option aq|[]=>none|(k,v)::r=>if k=n then some v else aH n r
theorem l8{aq}(n):aH n ([]:List (aa×aq))=none:=by rfl
theorem jT:∀{aq:Type}(n k:aa)(v:aq)(r:List (aa×aq)),aH n ((k,v)::r)=if k=n then some v else aH n r:=by intros;rfl
noncomputable def put{aq:Type}(n:aa)(v:aq):List (aa×aq)->List (aa×aq)|[]=>[(n,v)]|(k,u)::r=>if k=n then(k,v)::r else(k,u)::put n v r
theorem l9:∀{aq:Type}(n:aa)(v:aq),put n v []=[(n,v)]:=by intros;rfl
theorem fL:∀{aq:Type}(n:aa)(v:aq)(k:aa)(Z:aq)(r:List (aa×aq)),put n v ((k,Z)::r)=if k=n then(k,v)::r else(k,Z)::put n v r:=by intros;rfl
noncomputable def del{aq:Type}(n:aa):List (aa×aq)->List (aa×aq)|[]=>[]|(k,u)::r=>if k=n then r else(k,u)::del n r
theorem ma{aq}(n):del n ([]:List (aa×aq))=[]:=by rfl
theorem hd:∀{aq:Type}(n k:aa)(v:aq)(r:List (aa×aq)),del n ((k,v)::r)=if k=n then r else(k,v)::del n r:=by intros;rfl
noncomputable def hL{aq:Type}(n:Int):List (Int×aq)->Option aq|[]=>none|(k,v)::r=>if k=n then some v else hL n r
theorem tY{aq}(n):hL n ([]:List (Int×aq))=none:=by rfl
theorem tZ:∀{aq:Type}(n k:Int)(v:aq)(r:List (Int×aq)),hL n ((k,v)::r)=if k=n then some v else hL n r:=by intros;rfl
noncomputable def jU{aq:Type}(n:Int)(v:aq):List (Int×aq)->List (Int×aq)|[]=>[(n,v)]|(k,u)::r=>if k=n then(k,v)::r else(k,u)::jU n v r
theorem Ad:∀{aq:Type}(n:Int)(v:aq),jU n v []=[(n,v)]:=by intros;rfl
theorem Ae:∀{aq:Type}(n:Int)(v:aq)(k:Int)(Z:aq)(r:List (Int×aq)),jU n v ((k,Z)::r)=if k=n then(k,v)::r else(k,Z)::jU n v r:=by intros;rfl
noncomputable def dh(x:V):List V->Bool|[]=>false|y::r=>decide (x=y)||dh x r
theorem gp:∀(x:V),dh x []=false:=by intros;rfl
theorem gq:∀(x y:V)(r:List V),dh x (y::r)=(decide (x=y)||dh x r):=by intros;rfl
noncomputable def V.flat:V->Bool|.ae _=>true|.S _=>true|.aP _=>true|.a5=>true|_=>false
noncomputable def V.isStr:V->Bool|.S _=>true|_=>false
noncomputable def V.isInt:V->Bool|.ae _=>true|_=>false
noncomputable def clip(n:Nat)(i:Int):Nat:=(max 0<|min (if i<0 then i+n else i) n).toNat
def gr{aq:Type}(lo aj:V)(xs:List aq):Option (List aq):=
 let l:=match lo with|.a5=>some 0|.ae i=>some (clip xs.length i)|_=>none
 let u:=match aj with|.a5=>some xs.length|.ae i=>some (clip xs.length i)|_=>none
 match l,u with
 |some l,some u=>some<|(xs.take u).drop l
 |_,_=>none
noncomputable def c9{aq:Type}(i:Int)(xs:List aq):Option aq:=if i<0 then(if(xs.length:Int)+i<0 then none else xs[((xs.length:Int)+i).toNat]?)else xs[i.toNat]?
noncomputable def mb(p s:aa):Bool:=decide (s.take p.length=p)
noncomputable def mc(p s:aa):Bool:=decide (p.length<=s.length)&&decide (s.drop (s.length-p.length)=p)
noncomputable def f5(c:Nat):Nat->aa->Int|_,[]=>-1|i,d::r=>if d=c then(i:Int)else f5 c (i+1) r
theorem Af:∀(c x d:Nat)(r:aa),f5 c x (d::r)=if d=c then↑x else f5 c (x+1) r:=by intros;rfl
noncomputable def eH(Z:aa):List aa->aa|[]=>[]|[x]=>x|x::r=>x++Z++eH Z r
noncomputable def jV:List V->Option (List aa)|[]=>some []|v::r=>match v with|.S s=>(jV r).map (s::·)|_=>none
theorem Ag(s)(r):jV (.S s::r)=(jV r).map (s::·):=rfl
theorem md(Z x y)(r):eH Z (x::y::r)=x++Z++eH Z (y::r):=rfl
noncomputable def b3(l:List aa):Nat:=(l.map List.length).sum
abbrev a3(aq:Type):=aq->ar->Prop
set_option genInjectivity false in
structure bS where
 call:Option Nat->V->List V->a3 V->a3 Nat->ar->Prop
 inner:Option Nat->V->List V->a3 V->a3 Nat->ar->Prop
 aZ:Nat->aa->Option Nat
 e9:V->aa->Option V
 raised:Nat
 attr:Nat->aa->Bool
 ec:Nat->aa->Bool
 ax:Nat->Option (List V)
noncomputable def bS.down(B:bS):bS:={B with call:=B.inner,inner:=fun O O O O O O=>False}
abbrev fM:=V->St->Prop
abbrev KE:=Nat->St->Prop
abbrev KB:=Bool->St->Prop
abbrev ot:=List V->St->Prop
inductive iZ(h:ar)(a:Nat)(K:Bool->Prop):Prop where
 |list {xs:List V} (X:h a=some (.ag xs)) (W:xs.length<=16777216) (k:K (decide (xs≠[])))
 |av {xs:List (aa×V)} {e:Nat} (X:h a=some (.av xs e)) (W:xs.length<=16777216) (k:K (decide (xs≠[])))
 |b2 {xs:List (Int×V)} {e:Nat} (X:h a=some (.b2 xs e)) (W:xs.length<=16777216) (k:K (decide (xs≠[])))
def kS(h:ar)(v:V)(K:Bool->Prop):Prop:=match v with
 |.a5=>K false
 |.aP b=>K b
 |.ae i=>K<|decide (i≠0)
 |.S s=>s.length<=16777216/\K (decide (s≠[]))
 |.Y a=>iZ h a K
 |_=>False
def fN(v:V)(K:KB)(J:St):Prop:=kS J.h v fun b=>K b J
def cE(o:dM)(K:a3 V)(h:ar):Prop:=∀a,h a=none->K (.Y a) (h.set a o)
def hM(o:dM)(K:fM)(J:St):Prop:=cE o (fun v h=>K v {J with h}) J.h
inductive ou(a b:Nat)(K:a3 V)(h:ar):Prop where
 |mk {xs X:List V} (W:h a=some (.ag xs)) (T:h b=some (.ag X)) (R:xs.length+X.length<=16777216) (k:cE (.ag (xs++X)) K h)
def cM(v:V)(k:Int->Prop):Prop:=match v with|.ae b=>k b|_=>False
def hf(v:V)(k:aa->Prop):Prop:=match v with|.S b=>k b|_=>False
def i0(v:V)(k:Nat->Prop):Prop:=match v with|.Y b=>k b|_=>False
def kT(x y:V)(i:Int->Prop)(s:aa->Prop)(r:Nat->Nat->Prop):Prop:=match x with
 |.ae a=>cM y fun b=>i<|a+b
 |.S a=>hf y fun b=>a.length+b.length<=16777216/\s (a++b)
 |.Y a=>i0 y<|r a
 |_=>False
def me(Z:Operator)(x y:V)(K:a3 V)(h:ar):Prop:=match Z with
 |.Add=>kT x y (fun c=>K (.ae c) h) (fun c=>K (.S c) h) fun a b=>ou a b K h
 |.Sub=>cM x fun a=>cM y fun b=>K (.ae<|a-b) h
 |.Mult=>cM x fun a=>cM y fun b=>(a.natAbs<2^64\/b.natAbs<2^64)/\K (.ae<|a*b) h
 |.FloorDiv=>cM x fun a=>cM y fun b=>b≠0/\b.natAbs<1073741824/\K (.ae<|a.fdiv b) h
 |.Mod=>cM x fun a=>cM y fun b=>b≠0/\K (.ae<|a.fmod b) h
 |.Pow=>cM x fun a=>cM y fun b=>0<=b/\b<100/\a.natAbs<1000/\K (.ae<|a^b.toNat) h
 |_=>False
def qz(Z:Operator)(x y:V)(K:fM)(J:St):Prop:=me Z x y (fun v h=>K v {J with h}) J.h
def mf(Z:Operator)(x y:V)(K:V->Prop):Prop:=match Z with
 |.Add=>kT x y (fun c=>K<|.ae c) (fun c=>K<|.S c) fun O O=>False
 |.Sub=>cM x fun a=>cM y fun b=>K<|.ae<|a-b
 |_=>False
def qA(Z:Operator)(x y:V)(K:fM)(J:St):Prop:=mf Z x y fun v=>K v J
inductive ip(h:ar)(K:Bool->Prop):V->V->Prop where
 |av {s:aa} {a e:Nat} {es:List (aa×V)} (X:h a=some (.av es e)) (k:K (aH s es).isSome):ip h K (.S s) (.Y a)
 |b2 {s:Int} {a e:Nat} {es:List (Int×V)} (X:h a=some (.b2 es e)) (k:K (hL s es).isSome):ip h K (.ae s) (.Y a)
 |list {x:V} {a:Nat} {xs:List V} (X:h a=some (.ag xs)) (W:(((x.isStr&&xs.all V.isStr)||(x.isInt&&xs.all V.isInt))=true)) (T:xs.length<=16777216) (k:K (dh x xs)):ip h K x (.Y a)
 |tup {x:V} {a:Nat} {xs:List V} (X:h a=some (.an xs)) (W:(((x.isStr&&xs.all V.isStr)||(x.isInt&&xs.all V.isInt))=true)) (T:xs.length<=16777216) (k:K (dh x xs)):ip h K x (.Y a)
@[reducible]def mg(h:ar)(x y:V)(K:Bool->Prop):Prop:=ip h K x y
def Ah(x y:V)(K:KB)(J:St):Prop:=mg J.h x y fun b=>K b J
def kU(h:ar)(x y:V)(K:Bool->Prop):Prop:=match x with
 |.ae a=>cM y fun b=>K<|decide (a=b)
 |.S a=>hf y fun b=>K<|decide (a=b)
 |.Y a=>i0 y fun b=>bs fun d e=>cQ (dat 4 h (.Y a)=some d) (dat 4 h (.Y b)=some e) (d.ok e=true)<|K<|d.beq e
 |_=>False
def t2(x y:V)(K:Bool->Prop):Prop:=match x with
 |.ae a=>cM y fun b=>K<|decide (a<=b)
 |.S a=>hf y fun b=>K<|!decide (b<a)
 |_=>False
def mh(y:V)(k:Prop):Prop:=match y with|.a5=>k|_=>False
def kV(h:ar)(Z:CmpOp)(x y:V)(K:Bool->Prop):Prop:=match Z with
 |.Eq=>kU h x y K
 |.NotEq=>kU h x y fun b=>K<|!b
 |.Lt=>cM x fun a=>cM y fun b=>K<|decide (a<b)
 |.LtE=>t2 x y K
 |.Gt=>cM x fun a=>cM y fun b=>K<|decide (b<a)
 |.GtE=>cM x fun a=>cM y fun b=>K<|decide (b<=a)
 |.In=>mg h x y K
 |.NotIn=>mg h x y fun b=>K<|!b
 |.Is=>mh y<|K<|decide (x=.a5)
 |.IsNot=>mh y<|K<|!decide (x=.a5)
def jW(Z:CmpOp)(x y:V)(K:KB)(J:St):Prop:=kV J.h Z x y fun b=>K b J
inductive f6(B:bS)(h:ar)(K:V->Prop):V->V->Prop where
 |str {s:aa} {j:Int} {c:Nat} (X:c9 j s=some c) (W:-(2^62)<j) (T:j<2^62) (k:K (.S [c])):f6 B h K (.S s) (.ae j)
 |list {a:Nat} {xs:List V} {j:Int} {v:V} (R:h a=some (.ag xs)) (X:c9 j xs=some v) (W:-(2^62)<j) (T:j<2^62) (k:K v):f6 B h K (.Y a) (.ae j)
 |tup {a:Nat} {xs:List V} {j:Int} {v:V} (R:h a=some (.an xs)) (X:c9 j xs=some v) (W:-(2^62)<j) (T:j<2^62) (k:K v):f6 B h K (.Y a) (.ae j)
 |av {a e:Nat} {es:List (aa×V)} {s:aa} {v:V} (R:h a=some (.av es e)) (X:aH s es=some v) (k:K v):f6 B h K (.Y a) (.S s)
 |ax {a:Nat} {xs:List V} {j:Int} {v:V} (Q:B.ax a=some xs) (X:c9 j xs=some v) (W:-(2^62)<j) (T:j<2^62) (k:K v):f6 B h K (.Y a) (.ae j)
@[reducible]def jX(B:bS)(h:ar)(o i:V)(K:V->Prop):Prop:=f6 B h K o i
def qB(B:bS)(o i:V)(K:fM)(J:St):Prop:=jX B J.h o i fun v=>K v J
noncomputable def iq:V->Bool|.a5=>true|.ae i=>decide (-(2^62)<i)&&decide (i<2^62)|_=>false
inductive mi(P:a3 V)(h:ar):V->V->V->Prop where
 |str {s t:aa} {lo aj:V} (X:gr lo aj s=some t) (W:s.length<=16777216) (T:iq lo=true) (R:iq aj=true) (k:P (.S t) h):mi P h (.S s) lo aj
 |list {a:Nat} {s t:List V} {lo aj:V} (Q:h a=some (.ag s)) (X:gr lo aj s=some t) (W:s.length<=16777216) (T:iq lo=true) (R:iq aj=true) (k:cE (.ag t) P h):mi P h (.Y a) lo aj
@[reducible]def ov(o lo aj:V)(K:a3 V)(h:ar):Prop:=mi K h o lo aj
def qC(o lo aj:V)(K:fM)(J:St):Prop:=ov o lo aj (fun v h=>K v {J with h}) J.h
inductive mj(B:bS)(h:ar)(n:aa)(K:V->Prop):V->Prop where
 |inst {a C d:Nat} {es:List (aa×V)} {v:V} (X:h a=some (.dt C d)) (U:h d=some (.bK es)) (W:aH n es=some v) (T:B.attr C n=true) (R:∀i,v≠.b5 i) (k:K v):mj B h n K (.Y a)
 |exc {a C d:Nat} {c:hc} {es:List (aa×V)} {v:V} (X:h a=some (.bD C d c)) (U:h d=some (.bK es)) (W:aH n es=some v) (T:B.attr C n=true) (R:∀i,v≠.b5 i) (k:K v):mj B h n K (.Y a)
@[reducible]def ml(B:bS)(h:ar)(o:V)(n:aa)(K:V->Prop):Prop:=mj B h n K o
def ow(B:bS)(o:V)(n:aa)(K:fM)(J:St):Prop:=ml B J.h o n fun v=>K v J
inductive jY(B:bS)(n:aa)(v:V)(Q:ar->Prop)(h:ar):V->Prop where
 |inst {a C d:Nat} {es:List (aa×V)} (X:h a=some (.dt C d)) (U:h d=some (.bK es)) (W:B.ec C n=true) (T:es.length<=100) (k:Q (h.set d (.bK (put n v es)))):jY B n v Q h (.Y a)
 |exc {a C d:Nat} {c:hc} {es:List (aa×V)} (X:h a=some (.bD C d c)) (U:h d=some (.bK es)) (W:B.ec C n=true) (T:es.length<=100) (k:Q (h.set d (.bK (put n v es)))):jY B n v Q h (.Y a)
 |dY {a C:Nat} (X:h a=some (.dY C)) (W:B.ec C n=true) (k:∀d,h d=none->Q ((h.set d (.bK [(n,v)])).set a (.bD C d {}))):jY B n v Q h (.Y a)
@[reducible]def jZ(B:bS)(o:V)(n:aa)(v:V)(K:ar->Prop)(h:ar):Prop:=jY B n v K h o
def qD(B:bS)(o:V)(n:aa)(v:V)(K:St->Prop)(J:St):Prop:=jZ B o n v (fun h=>K {J with h}) J.h
inductive mm(v:V)(Q:ar->Prop)(h:ar):V->V->Prop where
 |av {a e:Nat} {es:List (aa×V)} {s:aa} (X:h a=some (.av es e)) (W:es.length<=16000000) (k:∀e,Q (h.set a (.av (put s v es) e))):mm v Q h (.Y a) (.S s)
 |b2 {a e:Nat} {es:List (Int×V)} {s:Int} (X:h a=some (.b2 es e)) (W:es.length<=16000000) (k:∀e,Q (h.set a (.b2 (jU s v es) e))):mm v Q h (.Y a) (.ae s)
@[reducible]def ox(o i v:V)(K:ar->Prop)(h:ar):Prop:=mm v K h o i
def t4(o i v:V)(K:St->Prop)(J:St):Prop:=ox o i v (fun h=>K {J with h}) J.h
inductive hN where
 |bi
 |fn (f:V) (self:List V)
noncomputable def Ai:eu->Bool|.startswith|.endswith|.find|.f2|.lower=>true|_=>false
inductive fO(B:bS)(h:ar)(R:hN->Prop):V->eu->Prop where
 |str {s:aa} {m:eu} (Q:Ai m=true) (r:R .bi):fO B h R (.S s) m
 |cls {a:Nat} {f:V} {m:aa} (W:B.e9 (.Y a) m=some f) (r:R (.fn f [])):fO B h R (.Y a) (.bE m)
 |app {a:Nat} {xs:List V} (X:h a=some (.ag xs)) (r:R .bi):fO B h R (.Y a) .dN
 |get {a e:Nat} {xs:List (aa×V)} (X:h a=some (.av xs e)) (r:R .bi):fO B h R (.Y a) .get
 |pop {a e:Nat} {xs:List (aa×V)} (X:h a=some (.av xs e)) (r:R .bi):fO B h R (.Y a) .pop
 |own {a C d f:Nat} {m:aa} {es:List (aa×V)} (X:h a=some (.dt C d)) (U:h d=some (.bK es)) (P:aH m es=none) (W:B.aZ C m=some f) (O:B.e9 (.Y a) m=none) (r:R (.fn (.Y f) [.Y a])):fO B h R (.Y a) (.bE m)
 |typ {T:String} {f:V} {m:aa} (W:B.e9 (.cg T) m=some f) (r:R (.fn f [])):fO B h R (.cg T) (.bE m)
@[reducible]def kW(B:bS)(h:ar)(o:V)(n:eu)(R:hN->Prop):Prop:=fO B h R o n
def qE(B:bS)(o:V)(n:eu)(R:hN->Prop)(J:St):Prop:=kW B J.h o n R
inductive ed(P:a3 V)(h:ar):V->eu->List V->Prop where
 |pre {s p:aa} (k:P (.aP (mb p s)) h):ed P h (.S s) .startswith [.S p]
 |oy {s p:aa} (k:P (.aP (mc p s)) h):ed P h (.S s) .endswith [.S p]
 |find {s:aa} {c:Nat} (k:P (.ae (f5 c 0 s)) h):ed P h (.S s) .find [.S [c]]
 |oz {s:aa} {c:Nat} {i:Int} (R:0<=i) (Q:i<=s.length) (k:P (.ae (f5 c i.toNat (s.drop i.toNat))) h):ed P h (.S s) .find [.S [c],.ae i]
 |low (k:P (.S g4) h):ed P h (.S g4) .lower []
 |join {X:aa} {a:Nat} {xs:List V} {l:List aa} (W:h a=some (.ag xs)) (T:jV xs=some l) (O:b3 l+(X.length+1)*(l.length+1)<=16777216) (k:P (.S (eH X l)) h):ed P h (.S X) .f2 [.Y a]
 |app {a:Nat} {xs:List V} {v:V} (W:h a=some (.ag xs)) (T:xs.length<=16000000) (k:P .a5 (h.set a (.ag (xs++[v])))):ed P h (.Y a) .dN [v]
 |get {a e:Nat} {es:List (aa×V)} {s:aa} {v:V} (W:h a=some (.av es e)) (k:P ((aH s es).getD v) h):ed P h (.Y a) .get [.S s,v]
 |pop {a e:Nat} {es:List (aa×V)} {s:aa} {v:V} (W:h a=some (.av es e)) (T:es.length<=16000000) (k:match aH s es with|some u=>∀e,P u (h.set a<|.av (del s es) e)|none=>P v h):ed P h (.Y a) .pop [.S s,v]
 |da {a e:Nat} {es:List (aa×V)} {s:aa} {u:V} (W:h a=some (.av es e)) (T:es.length<=16000000) (N:aH s es=some u) (k:∀e,P u (h.set a (.av (del s es) e))):ed P h (.Y a) .pop [.S s]
@[reducible]def mn(o:V)(n:eu)(Z:List V)(K:a3 V)(h:ar):Prop:=ed K h o n Z
def t5(o:V)(n:eu)(Z:List V)(K:fM)(J:St):Prop:=mn o n Z (fun v h=>K v {J with h}) J.h
def qF(B:bS)(U:Option Nat)(c:hN)(o:V)(n:eu)(Z:List V)(K:fM)(E:KE)(J:St):Prop:=match c with|.bi=>t5 o n Z K J|.fn f self=>B.call U f (self++Z) (fun v h=>K v {J with h}) (fun e h=>E e {J with h}) J.h
def mo(o:Option (Option V))(k:V->Prop):Prop:=match o with|some o=>(match o with|some v=>k v|none=>False)|none=>False
theorem qG{o k v}(e:o=some (some v))(h:k v):mo o k:=Z e h
theorem t6{o k}(h:mo o k):dk (fun v=>o=some (some v)) k:=by
 cases o with
 |none=>exact h.elim
 |some o=>cases o with|none=>exact h.elim|some v=>exact⟨v,rfl,h⟩
mutual
noncomputable def wE(B:bS)(U:Option Nat):a6->fM->KE->St->Prop
 |.k v,K,_,J=>K v J
 |.x i,K,_,J=>mo J.l[i]? fun v=>K v J
 |.aM Y a b,K,E,J=>wE B U a (fun x J=>wE B U b (fun y J=>qz Y x y K J) E J) E J
 |.cm a,K,E,J=>wE B U a (fun x J=>match x with|.ae i=>K (.ae<|-i) J|_=>False) E J
 |.eG a,K,E,J=>wE B U a (fun x J=>fN x (fun b J=>K (.aP<|!b) J) J) E J
 |.cR a b,K,E,J=>wE B U a (fun x J=>fN x (fun t J=>if t then wE B U b K E J else K x J) J) E J
 |.dF a b,K,E,J=>wE B U a (fun x J=>fN x (fun t J=>if t then K x J else wE B U b K E J) J) E J
 |.aA Y a b,K,E,J=>wE B U a (fun x J=>wE B U b (fun y J=>jW Y x y (fun t J=>K (.aP t) J) J) E J) E J
 |.fq Y W a b c,K,E,J=>wE B U a (fun x J=>wE B U b (fun y J=>jW Y x y (fun t J=>if t then wE B U c (fun z J=>jW W y z (fun t J=>K (.aP t) J) J) E J else K (.aP false) J) J) E J) E J
 |.aB t a b,K,E,J=>wT B U t (fun c J=>if c then wE B U a K E J else wE B U b K E J) E J
 |.bW f X,K,E,J=>wE B U f (fun V J=>wEs B U X (fun ad J=>B.call U V ad (fun v h=>K v {J with h}) (fun e h=>E e {J with h}) J.h) E J) E J
 |.aZ o n X,K,E,J=>wE B U o (fun Z J=>qE B Z n (fun c=>wEs B U X (fun ad J=>qF B U c Z n ad K E J) E J) J) E J
 |.ce o n,K,E,J=>wE B U o (fun Z J=>ow B Z n K J) E J
 |.aE o i,K,E,J=>wE B U o (fun Z J=>wE B U i (fun T J=>qB B Z T K J) E J) E J
 |.aJ o lo aj,K,E,J=>wE B U o (fun Z J=>wE B U lo (fun S J=>wE B U aj (fun R J=>qC Z S R K J) E J) E J) E J
 |.an es,K,E,J=>wEs B U es (fun ad J=>hM (.an ad) K J) E J
 |.ag es,K,E,J=>wEs B U es (fun ad J=>hM (.ag ad) K J) E J
 |.av aI es,K,E,J=>wEs B U es (fun ad J=>∀e,hM (.av (aI.zip ad) e) K J) E J
 |.gk,K,_,J=>∀e,hM (.b2 [] e) K J
noncomputable def wEs(B:bS)(U:Option Nat):List a6->ot->KE->St->Prop|[],K,_,J=>K [] J|e::r,K,E,J=>wE B U e (fun v J=>wEs B U r (fun ad J=>K (v::ad) J) E J) E J
noncomputable def wT(B:bS)(U:Option Nat):a6->KB->KE->St->Prop
 |.eG a,K,E,J=>wT B U a (fun b J=>K (!b) J) E J
 |.cR a b,K,E,J=>wT B U a (fun t J=>if t then wT B U b K E J else K false J) E J
 |.dF a b,K,E,J=>wT B U a (fun t J=>if t then K true J else wT B U b K E J) E J
 |.aB t a b,K,E,J=>wT B U t (fun c J=>if c then wT B U a K E J else wT B U b K E J) E J
 |.aA Y a b,K,E,J=>wE B U a (fun x J=>wE B U b (fun y J=>jW Y x y K J) E J) E J
 |.fq Y W a b c,K,E,J=>wE B U a (fun x J=>wE B U b (fun y J=>jW Y x y (fun t J=>if t then wE B U c (fun z J=>jW W y z K J) E J else K false J) J) E J) E J
 |.k v,K,_,J=>fN v K J
 |.x i,K,_,J=>mo J.l[i]? fun v=>fN v K J
 |.aM Y a b,K,E,J=>wE B U a (fun x J=>wE B U b (fun y J=>qz Y x y (fun v J=>fN v K J) J) E J) E J
 |.cm _,_,_,_=>False
 |.bW f X,K,E,J=>wE B U f (fun V J=>wEs B U X (fun ad J=>B.call U V ad (fun v h=>fN v K {J with h}) (fun e h=>E e {J with h}) J.h) E J) E J
 |.aZ o n X,K,E,J=>wE B U o (fun Z J=>qE B Z n (fun c=>wEs B U X (fun ad J=>qF B U c Z n ad (fun v J=>fN v K J) E J) E J) J) E J
 |.ce o n,K,E,J=>wE B U o (fun Z J=>ow B Z n (fun v J=>fN v K J) J) E J
 |.aE o i,K,E,J=>wE B U o (fun Z J=>wE B U i (fun T J=>qB B Z T (fun v J=>fN v K J) J) E J) E J
 |.aJ o lo aj,K,E,J=>wE B U o (fun Z J=>wE B U lo (fun S J=>wE B U aj (fun R J=>qC Z S R (fun v J=>fN v K J) J) E J) E J) E J
 |.an _,_,_,_=>False
 |.ag _,_,_,_=>False
 |.av _ _,_,_,_=>False
 |.gk,_,_,_=>False
end
set_option genCtorIdx true in
inductive oA where
 |bL|dx|ay (v:V)
abbrev c7:=oA->St->Prop
@[reducible] noncomputable def St.put(J:St)(i:Nat)(v:V):St:={J with l:=J.l.set i (some v)}
@[reducible] noncomputable def St.un(J:St)(i:Nat)(o:Option V):St:={J with l:=J.l.set i o}
noncomputable def putAll:aa->List V->St->Option St
 |[],[],J=>some J
 |i::aO,v::ad,J=>putAll aO ad<|J.put i v
 |_,_,_=>none
noncomputable def j0(lo:Int):Nat->List V|0=>[]|n+1=>.ae lo::j0 (lo+1) n
noncomputable def fa(st:Int)(lo:Int):Nat->List V|0=>[]|n+1=>.ae lo::fa st (lo+st) n
theorem Aj:∀(st lo:Int),fa st lo 0=[]:=by intros;rfl
theorem Ak:∀(st lo:Int)(n:Nat),fa st lo n.succ=V.ae lo::fa st (lo+st) n:=by intros;rfl
noncomputable def gN(lo aj:Int):Nat:=(aj-lo).toNat
noncomputable def fs(lo aj st:Int):Nat:=if 0<st then(if lo<aj then((aj-lo-1)/st+1).toNat else 0)else(if aj<lo then((lo-aj-1)/(-st)+1).toNat else 0)
inductive hg(h:ar)(Q:List V->Prop):V->Prop where
 |list {a:Nat} {xs:List V} (X:h a=some (.ag xs)) (k:Q xs):hg h Q (.Y a)
 |tup {a:Nat} {xs:List V} (X:h a=some (.an xs)) (k:Q xs):hg h Q (.Y a)
inductive fP(h:ar)(a:Nat)(Q:List V->Option (Nat×dM)->Prop):Prop where
 |list {xs:List V} (X:h a=some (.ag xs)) (k:Q xs (some (a,.ag xs)))
 |tup {xs:List V} (X:h a=some (.an xs)) (k:Q xs (some (a,.an xs)))
 |av {e:Nat} {xs:List (aa×V)} (X:h a=some (.av xs e)) (k:Q (xs.map fun e=>.S e.1) (some (a,.av xs e)))
 |b2 {e:Nat} {xs:List (Int×V)} (X:h a=some (.b2 xs e)) (k:Q (xs.map fun e=>.ae e.1) (some (a,.b2 xs e)))
 |range {lo aj:Int} (X:h a=some (.range lo aj)) (k:Q (j0 lo (gN lo aj)) none)
 |eF {lo aj st:Int} (X:h a=some (.eF lo aj st)) (k:Q (fa st lo (fs lo aj st)) none)
def mq(h:ar)(v:V)(k:List V->Option (Nat×dM)->Prop):Prop:=match v with|.S s=>k (s.map fun c=>.S [c]) none|.Y a=>fP h a k|_=>False
inductive hh(h:ar)(Q:List V->Option (Nat×dM)->Prop):V->Prop where
 |list {a:Nat} {xs:List V} (X:h a=some (.ag xs)) (k:Q xs (some (a,.ag xs))):hh h Q (.Y a)
 |range {a:Nat} {lo aj:Int} (X:h a=some (.range lo aj)) (k:Q (j0 lo (gN lo aj)) none):hh h Q (.Y a)
inductive mr(h:ar)(a:Nat)(Q:ar->Prop):Prop where
 |mk {C d:Nat} {c:hc} (X:h a=some (.bD C d c)) (k:Q (h.set a (.bD C d ⟨c.ctx,true⟩)))
def t7(h:ar)(a:Nat):Prop:=cP fun C d c=>h a=some (.bD C d c)/\c.b8=true
def dy(bb:Option (Nat×dM))(h:ar):Prop:=match bb with|none=>True|some p=>h p.1=some p.2
def j1(aO:aa)(tup:Bool)(v:V)(K:St->Prop)(J:St):Prop:=match tup with|false=>(match aO with|[i]=>K (J.put i v)|_=>False)|true=>hg J.h (fun xs=>dk (fun Z=>putAll aO xs J=some Z) K) v
noncomputable def ms(body:c7->KE->St->Prop)(aO:aa)(tup:Bool)(bb:Option (Nat×dM)):List V->c7->St->KE->Prop|[],K,J,_=>K .bL J|v::ad,K,J,E=>j1 aO tup v (fun J=>body (fun Z J=>match Z with|.bL=>dy bb J.h/\ms body aO tup bb ad K J E|.dx=>K .bL J|.ay v=>K (.ay v) J) E J) J
@[irreducible]def mt(Z:KB->KE->St->Prop)(body:c7->KE->St->Prop)(K:c7)(E:KE)(J:St):Prop:=
 ∀P:St->Prop,(∀J,Z (fun t J=>if t then body (fun Y J=>match Y with|.bL=>P J|.dx=>K .bL J|.ay v=>K (.ay v) J) E J else K .bL J) E J->P J)->P J
noncomputable def gO(B:bS)(bX:a6)(be:Option a6)(bb:Option (Nat×dM))(l:List (Option V)):List V->List V->(List V->ar->Prop)->ar->Prop
 |[],Z,K,h=>K Z h
 |v::ad,Z,K,h=>match be with
  |none=>wE B none bX (fun y J=>J.l=some v::l/\dy bb J.h/\Z.length<=16000000/\gO B bX be bb l ad (Z++[y]) K J.h) (fun O O=>False) ⟨some v::l,h⟩
  |some c=>wT B none c (fun t J=>if t then wE B none bX (fun y J=>J.l=some v::l/\dy bb J.h/\Z.length<=16000000/\gO B bX be bb l ad (Z++[y]) K J.h) (fun O O=>False) J
    else J.l=some v::l/\dy bb J.h/\gO B bX be bb l ad Z K J.h) (fun O O=>False) ⟨some v::l,h⟩
def isExc(h:ar)(a:Nat)(C:Nat):Prop:=bs fun d c=>h a=some (.bD C d c)
inductive mu(E:Nat->ar->Prop)(h:ar)(a C d:Nat)(c:hc):Option Nat->Prop where
 |none (k:E a h):mu E h a C d c none
 |same (k:E a h):mu E h a C d c (some a)
 |new {b W V:Nat} {X:hc} (R:h b=some (.bD W V X)) (T:b≠a) (Q:c.ctx=false) (P:X.ctx=false) (k:E a (h.set a (.bD C d ⟨true,c.b8⟩))):mu E h a C d c (some b)
inductive i1(E:Nat->ar->Prop)(h:ar)(U:Option Nat):V->Prop where
 |mk {a C d:Nat} {c:hc} (X:h a=some (.bD C d c)) (k:mu E h a C d c U):i1 E h U (.Y a)
def Al(U:Option Nat)(v:V)(E:KE)(J:St):Prop:=i1 (fun a h=>E a {J with h}) J.h U v
mutual
noncomputable def wS(B:bS)(U:Option Nat):cj->c7->KE->St->Prop
 |.bF e,K,E,J=>wE B U e (fun O J=>K .bL J) E J
 |.aG i e,K,E,J=>wE B U e (fun v J=>K .bL<|J.put i v) E J
 |.ev aO e,K,E,J=>U=none/\wE B U e (fun v J=>j1 aO true v (K .bL) J) E J
 |.cn o n e,K,E,J=>wE B U e (fun v J=>wE B U o (fun X J=>qD B X n v (K .bL) J) E J) E J
 |.c0 o i e,K,E,J=>wE B U e (fun v J=>wE B U o (fun X J=>wE B U i (fun R J=>t4 X R v (K .bL) J) E J) E J) E J
 |.c1 i W e,K,E,J=>mo J.l[i]? fun x=>wE B U e (fun y J=>qA W x y (fun v J=>K .bL<|J.put i v) J) E J
 |.gm o n W e,K,E,J=>wE B U o (fun X J=>ow B X n (fun x J=>wE B U e (fun y J=>qA W x y (fun v J=>qD B X n v (K .bL) J) J) E J) J) E J
 |.ay e,K,E,J=>wE B U e (fun v J=>K (.ay v) J) E J
 |.ca e,_,E,J=>wE B U e (fun v J=>Al U v E J) E J
 |.aB t b o,K,E,J=>wT B U t (fun c J=>if c then wSs B U b K E J else wSs B U o K E J) E J
 |.dO t b,K,E,J=>mt (wT B U t) (fun K E J=>wSs B U b K E J) K E J
 |.b6 aO V T b,K,E,J=>U=none/\wE B U T (fun v J=>mq J.h v fun xs bb=>ms (fun K E J=>wSs B U b K E J) aO V bb xs K J E) E J
 |.f4 aO V bI T bX be,K,E,J=>U=none/\wE B U T (fun v J=>hh J.h (fun xs bb=>gO B.down bX be bb (bI.map fun j=>(J.l[j]?).join) xs [] (fun Q h=>hM (.ag Q) (fun v J=>j1 aO V v (K .bL) J) ⟨J.l,h⟩) J.h) v) E J
 |.brk,K,_,J=>K .dx J
 |.pass,K,_,J=>K .bL J
 |.f3 b nm h,K,E,J=>wSs B U b K (fun a J=>isExc J.h a B.raised/\(match nm with|none=>wSs B (some a) h K E J|some i=>wSs B (some a) h (fun S J=>∀o,K S<|J.un i o) (fun e J=>∀o,E e<|J.un i o)<|J.put i<|.Y a)) J
 |.im b f,K,E,J=>wSs B U b
   (fun S J=>wSs B U f (fun Z J=>match Z with|.bL=>K S J|_=>K Z J) E J)
   (fun a J=>mr J.h a fun h=>wSs B (some a) f (fun Z J=>match Z with|.bL=>t7 J.h a/\E a J|_=>False) E {J with h}) J
noncomputable def wSs(B:bS)(U:Option Nat):List cj->c7->KE->St->Prop|[],K,_,J=>K .bL J|s::r,K,E,J=>wS B U s (fun Z J=>match Z with|.bL=>wSs B U r K E J|_=>K Z J) E J
end
set_option genInjectivity false in
structure aR where
 kX:Nat
 dZ:Nat
 dflt:List V
 body:List cj
noncomputable def aR.start(f:aR)(Z:List V):Option (List<|Option V):=
 if Z.length<=f.dZ/\f.dZ-Z.length<=f.dflt.length then
  some ((Z++f.dflt.drop (f.dflt.length-(f.dZ-Z.length))).map some++List.replicate (f.kX-f.dZ) none)
 else none
noncomputable def Am:oA->V|.ay v=>v|_=>.a5
def aR.call(B:bS)(U:Option Nat)(f:aR)(Z:List V)(K:a3 V)(E:a3 Nat)(h:ar):Prop:=
 match f.start Z with
 |some l=>wSs B U f.body (fun Y J=>K (Am Y) J.h) (fun a J=>E a J.h) ⟨l,h⟩
 |none=>False
end
section
open PySem PySem.Calls PyProof.Rows
set_option genInjectivity false in
structure bY where
 prog:Program
 w:World
 h₀:Heap
 g:Array GenState
 d:Drawn
 os:OsState
 i2:Str->Option Value
 hi:Str->Option Value
 top:bs fun t o=>h₀.get? t=some o/\h₀.objs.size=t+1
def Own(B:bY)(a:Addr):Prop:=B.h₀.objs.size<=a\/(B.h₀.get? a=none/\(a==sysModules)=false)
set_option genInjectivity false in
structure gs where
 env:Env
 L:Addr
 m:Str->Option Value
 act:Bool
def bo(l:List Value):List V:=l.map toV
noncomputable def aX(l:aa):Str:=⟨l.toArray⟩
def ee(Z:List (Str×Value)):List (aa×V):=Z.map fun p=>(p.1.cps.toList,toV p.2)
def hO(Z:List (Int×Value)):List (Int×V):=Z.map fun p=>(p.1,toV p.2)
def qH(B:bY)(H:Heap)(v:Value):Prop:=v=.none\/cP fun T ba Z=>fI (v=.ref T) (H.get? T=some ba) (ba.cls=.type "traceback") (ba.data=.fields Z) (3<Z.size)<|B.h₀.get? T=none
def gu{K}[DecidableEq K]{prog w}(knd:KeyKind prog w K)(o:Obj)(Z:List (K×Value))(ep:Nat):Prop:=
 ∃es,eE o.ExactDict (o.data=.dict es ep) (KeysOf knd es) (Pairs knd es.toList Z) ((Z.map (·.1)).Nodup)
theorem gu.of{K}[DecidableEq K]{prog w}{knd:KeyKind prog w K}{o Y ep}(x:gu knd o Y ep):o.IsDictOf knd Y:=by refine x.elim fun es Z=>?_;exact⟨es,ep,Z.1,Z.2,Z.3,Z.4,Z.5⟩
theorem gu.ex{K}[DecidableEq K]{prog w}{knd:KeyKind prog w K}{o Y}(x:o.IsDictOf knd Y):∃ep,gu knd o Y ep:=by obtain⟨es,ep,Z⟩:=x;exact⟨ep,es,Z.1,Z.2.1,Z.2.2.1,Z.2.2.2.1,Z.2.2.2.2⟩
theorem gu.nodup{K}[DecidableEq K]{prog w}{knd:KeyKind prog w K}{o Z ep}(x:gu knd o Z ep):(Z.map (·.1)).Nodup:=by refine x.elim fun es Y=>?_;exact Y.5
def i3(B:bY)(C:Nat):Prop:=cP fun Z be aJ=>cQ (B.h₀.get? C=some ⟨.type "type",Z,.cls be,aJ⟩) (be.mro.contains (.type "BaseException")=true) (be.mro.contains (.ref C)=true)<|be.mro.isEmpty=false
def ft(B:bY)(H:Heap):dM->Obj->Prop
 |.ag xs,o=>bs fun items ep=>o=⟨.type "list",none,.seq items ep,#[]⟩/\bo items.toList=xs
 |.an xs,o=>bs fun items ep=>o=⟨.type "tuple",none,.seq items ep,#[]⟩/\bo items.toList=xs
 |.av es e,o=>∃Z,gu (strKind B.prog B.w) o Z e/\ee Z=es
 |.b2 es e,o=>∃Z,gu (intKind B.prog B.w) o Z e/\hO Z=es
 |.bK es,o=>∃Z,o.IsDictOf (strKind B.prog B.w) Z/\ee Z=es
 |.dt C d,o=>∃aJ,o=⟨.ref C,some d,.plain,aJ⟩
 |.bD C d c,o=>cP fun ad aJ b8=>fm (o=⟨.ref C,some d,.fields ad,aJ⟩) (5<=ad.size) (c.ctx=false->ad[2]?=some .none) (ad[1]?=some b8) (qH B H b8) (i3 B C)<|c.b8=true->b8≠.none
 |.dY C,o=>bs fun ad aJ=>eE (o=⟨.ref C,none,.fields ad,aJ⟩) (5<=ad.size) (ad[2]?=some .none) (ad[1]?=some .none)<|i3 B C
 |.range lo aj,o=>(cP fun a b c=>o=⟨.type "range",none,.fields #[.int lo a,.int aj b,.int 1 c],#[]⟩)/\-(2^60)<lo/\lo<2^60/\-(2^60)<aj/\aj<2^60
 |.eF lo aj st,o=>(cP fun a b c=>o=⟨.type "range",none,.fields #[.int lo a,.int aj b,.int st c],#[]⟩)/\st≠0/\-(2^60)<lo/\lo<2^60/\-(2^60)<aj/\aj<2^60/\-(2^60)<st/\st<2^60
structure Rel(B:bY)(ups:List gs)(prot:List (Addr×Obj))(h:ar)(H:Heap):Prop where
 size:B.h₀.objs.size<=H.objs.size
 keep:∀b o,B.h₀.get? b=some o->H.get? b=some o
 objs:∀a ao,h a=some ao->Own B a/\∃o,H.get? a=some o/\ft B H ao o
 fr:∀u∈ups,H.Ns u.L u.m/\B.h₀.get? u.L=none/\h u.L=none
 nodup:(ups.map (·.L)).Nodup
 dG:(prot.map (·.1)).Nodup
 pr:∀p∈prot,H.get? p.1=some p.2/\B.h₀.get? p.1=none/\h p.1=none/\p.1∉ups.map (·.L)/\p.2.cls≠.type "traceback"
def Still(B:bY)(s:Shared):Prop:=s.gens=B.g/\s.drawn=B.d/\s.os=B.os
theorem ft.t8{B H ao o}(x:ft B H ao o):∀Z,o.data=.fields Z->o.cls≠.type "traceback":=by
 intro Z U Y;cases ao<;>skip
 .obtain⟨_,_,rfl,_⟩:=x;trivial
 .obtain⟨_,_,rfl,_⟩:=x;trivial
 .obtain⟨_,⟨_,_,q,_⟩,_⟩:=x;rw[q]at U;trivial
 .obtain⟨_,⟨_,_,q,_⟩,_⟩:=x;rw[q]at U;trivial
 .obtain⟨_,⟨_,_,_,q,_⟩,_⟩:=x;rw[q]at U;trivial
 .obtain⟨_,rfl⟩:=x;trivial
 .obtain⟨_,_,_,rfl,_⟩:=x;trivial
 .obtain⟨_,_,rfl,_⟩:=x;trivial
 .obtain⟨⟨_,_,_,rfl⟩,_⟩:=x;simp at Y
 .obtain⟨⟨_,_,_,rfl⟩,_⟩:=x;simp at Y
theorem ft.t9{B H ao o}(x:ft B H ao o):o.isFreed=false:=by
 cases ao<;>skip
 .obtain⟨_,_,rfl,_⟩:=x;rfl
 .obtain⟨_,_,rfl,_⟩:=x;rfl
 .obtain⟨_,⟨_,_,q,_⟩,_⟩:=x;exact Obj.isFreed_of_dict q
 .obtain⟨_,⟨_,_,q,_⟩,_⟩:=x;exact Obj.isFreed_of_dict q
 .obtain⟨_,⟨_,_,_,q,_⟩,_⟩:=x;exact Obj.isFreed_of_dict q
 .obtain⟨_,rfl⟩:=x;rfl
 .obtain⟨_,_,_,rfl,_⟩:=x;rfl
 .obtain⟨_,_,rfl,_⟩:=x;rfl
 .obtain⟨⟨_,_,_,rfl⟩,_⟩:=x;rfl
 .obtain⟨⟨_,_,_,rfl⟩,_⟩:=x;rfl
theorem ft.on{B H H' ao o}(x:ft B H ao o)(k:∀T ba V,H.get? T=some ba->ba.cls=.type "traceback"->ba.data=.fields V->3<V.size->bs fun X W=>cQ (H'.get? T=some X) (X.cls=.type "traceback") (X.data=.fields W)<|3<W.size):ft B H' ao o:=by
 cases ao with
 |bD C d c=>
  refine x.elim fun ad aJ b8 Z=>?_;refine⟨ad,aJ,b8,Z.1,Z.2,Z.3,Z.4,?_,Z.6,Z.7⟩;rcases Z.5 with t|⟨T,ba,V,t1,bA,t3,ii,U,S⟩
  .exact .inl t
  .refine(k T ba V bA t3 ii U).elim fun X W Y=>?_;exact .inr ⟨T,X,W,t1,Y.1,Y.2,Y.3,Y.4,S⟩
 |_=>exact x
section
variable{B:bY}{ups:List gs}{prot:List (Addr×Obj)}{h:ar}{H:Heap}
theorem Rel.fresh(R:Rel B ups prot h H):h H.objs.size=none:=by
 rcases q:h H.objs.size with _|ao
 .rfl
 .obtain⟨_,o,Z⟩:=R.objs _ _ q;exact absurd (Heap.lt_size Z.1)<|Nat.lt_irrefl _
theorem An{H':Heap}(k:∀b o,B.h₀.get? b=some o->H'.get? b=some o):B.h₀.objs.size<=H'.objs.size:=by refine B.top.elim fun t x Y=>?_;have:=Heap.lt_size<|k t x Y.1;exact Z Y.2 this
theorem Rel.push(R:Rel B ups prot h H)(o):Rel B ups prot h (H.push o):=by refine⟨by rw[Heap.size_push];exact le_succ_of_le R.size,fun b x e=>Heap.get?_push_of_some o<|R.keep b x e,fun a ao e=>?_,fun u W=>?_,R.nodup,R.dG,fun p V=>?_⟩;obtain⟨n,x,Y⟩:=R.objs a ao e;exact⟨n,x,Heap.get?_push_of_some o Y.1,Y.2.on fun T ba U a b c d=>⟨ba,U,Heap.get?_push_of_some o a,b,c,d⟩⟩;have Z:=R.fr u W;exact⟨Z.1.push o,Z.2.1,Z.2.2⟩;have X:=R.pr p V;exact⟨Heap.get?_push_of_some o X.1,X.2⟩
theorem Rel.qI(R:Rel B ups prot h H):B.h₀.get? H.objs.size=none:=by
 rcases q:B.h₀.get? H.objs.size with _|o
 .rfl
 .exact absurd (Heap.lt_size<|R.keep _ _ q)<|Nat.lt_irrefl _
theorem Rel.qJ(R:Rel B ups prot h H){u}(Z:u∈ups):u.L<H.objs.size:=(R.fr u Z).1.lt
theorem Rel.qK(R:Rel B ups prot h H){p}(Z:p∈prot):p.1<H.objs.size:=Heap.lt_size (R.pr p Z).1
theorem Rel.alloc(R:Rel B ups prot h H){o ao}(i:ft B (H.push o) ao o):Rel B ups prot (h.set H.objs.size ao) (H.push o):=by have P:=R.push o;refine⟨P.size,P.keep,fun a ao' e=>?_,fun u X=>?_,R.nodup,R.dG,fun p W=>?_⟩;unfold ar.set at e;by_cases q:a=H.objs.size;subst q;rw[if_pos rfl]at e;obtain rfl:=a2 e;exact⟨.inl R.size,o,Heap.get?_push_size _ i.t9,i⟩;exact P.objs a ao'<|(if_neg q).symm.trans e;have Y:=P.fr u X;exact⟨Y.1,Y.2.1,(if_neg<|ne_of_lt<|R.qJ X).trans Y.2.2⟩;have Z:=P.pr p W;exact⟨Z.1,Z.2.1,by unfold ar.set;rw[if_neg<|ne_of_lt<|R.qK W];exact Z.2.2.1,Z.2.2.2⟩
theorem Rel.Ao(R:Rel B ups prot h H){a:Addr}{ao}(e:h a=some ao){u}(Z:u∈ups):u.L≠a:=by rintro rfl;have:=(R.fr u Z).2.2;rw[e]at this;trivial
theorem Rel.Ap(R:Rel B ups prot h H){a:Addr}{ao}(e:h a=some ao){p}(Z:p∈prot):p.1≠a:=by intro q;have:=(R.pr p Z).2.2.1;rw[q,e]at this;trivial
theorem Rel.ua(R:Rel B ups prot h H){a:Addr}{ao}(e:h a=some ao){b o}(Z:B.h₀.get? b=some o):b≠a:=by
 rintro rfl;rcases(R.objs _ _ e).1 with q|q
 .exact absurd (Heap.lt_size Z)<|Nat.not_lt.mpr q
 .rw[q.1]at Z;trivial
theorem Rel.same(R:Rel B ups prot h H){H'}{a:Addr}{ao ao' o'}(e:h a=some ao)(k:∀b o,b≠a->H.get? b=some o->H'.get? b=some o)(G:H'.get? a=some o')(i:ft B H' ao' o'):Rel B ups prot (h.set a ao') H':=by
 have b8:∀T ba X,H.get? T=some ba->ba.cls=.type "traceback"->ba.data=.fields X->3<X.size->bs fun W S=>cQ (H'.get? T=some W) (W.cls=.type "traceback") (W.data=.fields S) (3<S.size):=fun T ba X N M L F=>by by_cases q:T=a;subst q;obtain⟨_,x,Q⟩:=R.objs _ _ e;have K:=Q.1;rw[N]at K;obtain rfl:=a2 K;exact absurd M<|Q.2.t8 X L;exact⟨ba,X,k T _ q N,M,L,F⟩
 refine⟨by refine B.top.elim fun t x V=>?_;have:=Heap.lt_size<|k t x (R.ua e V.1)<|R.keep t x V.1;rw[V.2];exact this,fun b x Z=>k b _ (R.ua e Z)<|R.keep b x Z,fun b E Z=>?_,fun u J=>?_,R.nodup,R.dG,fun p I=>?_⟩;unfold ar.set at Z;by_cases q:b=a;subst q;rw[if_pos rfl]at Z;obtain rfl:=a2 Z;exact⟨(R.objs _ _ e).1,o',G,i⟩;rw[if_neg q]at Z;obtain⟨n,x,P⟩:=R.objs b E Z;exact⟨n,x,k b _ q P.1,P.2.on b8⟩;have U:=R.fr u J;have q:=R.Ao e J;refine⟨?_,U.2.1,(if_neg q).trans U.2.2⟩;obtain⟨D,es,ep,O⟩:=U.1;exact⟨D,es,ep,k _ _ q O.1,O.2⟩;have Y:=R.pr p I;have q:=R.Ap e I;exact⟨k _ _ q Y.1,Y.2.1,by unfold ar.set;rw[if_neg q];exact Y.2.2.1,Y.2.2.2⟩
theorem Rel.frame{env L act m a8 H'}(R:Rel B (⟨env,L,m,act⟩::ups) prot h H)(k:∀b o,b≠L->H.get? b=some o->H'.get? b=some o)(F:H.objs.size<=H'.objs.size)(E:H'.Ns L a8):Rel B (⟨env,L,a8,act⟩::ups) prot h H':=by
 have X:=R.fr ⟨env,L,m,act⟩<|.head _;have b8:∀T ba S,H.get? T=some ba->ba.cls=.type "traceback"->ba.data=.fields S->3<S.size->bs fun W P=>cQ (H'.get? T=some W) (W.cls=.type "traceback") (W.data=.fields P) (3<P.size):=fun T ba S K D J C=>by by_cases q:T=L;subst q;obtain⟨I,es,ep,O⟩:=X.1;have G:=O.1;have U:=O.2.1;rw[K]at G;obtain rfl:=a2 G;rw[J]at U;trivial;exact⟨ba,S,k T _ q K,D,J,C⟩
 refine⟨bp R.size F,fun b x e=>k b x (fun q=>?_)<|R.keep b x e,fun a ao e=>?_,fun u Q=>?_,R.nodup,R.dG,fun p A=>?_⟩;subst q;rw[X.2.1]at e;trivial;obtain⟨n,x,N⟩:=R.objs a ao e;exact⟨n,x,k a x (fun q=>by subst q;rw[X.2.2]at e;trivial) N.1,N.2.on b8⟩;cases Q with|head=>exact⟨E,X.2.1,X.2.2⟩|tail _ Q=>have V:=R.fr u<|.tail _ Q;have ne:u.L≠L:=fun q=>(nodup_cons.mp R.nodup).1 (by have w:u.L∈ups.map (·.L):=List.mem_map_of_mem Q;rw[q]at w;exact w);obtain⟨I,es,ep,M⟩:=V.1;exact⟨⟨I,es,ep,k _ _ ne M.1,M.2⟩,V.2.1,V.2.2⟩
 .have Y:=R.pr p A;exact⟨k _ _ (fun q=>Y.2.2.2.1<|Z q<|.head _) Y.1,Y.2.1,Y.2.2.1,Y.2.2.2.1,Y.2.2.2.2⟩
theorem Rel.guard{H' pre post a o o'}(R:Rel B ups (pre++(a,o)::post) h H)(k:∀b x,b≠a->H.get? b=some x->H'.get? b=some x)(I:H.objs.size<=H'.objs.size)(G:H'.get? a=some o')(F:o'.cls≠.type "traceback"):Rel B ups (pre++(a,o')::post) h H':=by
 have Z:=R.pr (a,o) cw;have P:=Z.1;have b8:∀T ba W,H.get? T=some ba->ba.cls=.type "traceback"->ba.data=.fields W->3<W.size->bs fun Y V=>cQ (H'.get? T=some Y) (Y.cls=.type "traceback") (Y.data=.fields V) (3<V.size):=fun T ba W O N E D=>by by_cases q:T=a;subst q;rw[O]at P;obtain rfl:=a2 P;exact absurd N Z.2.2.2.2;exact⟨ba,W,k T _ q O,N,E,D⟩
 have aC:((pre++(a,o)::post).map (·.1)).Nodup:=R.dG;refine⟨bp R.size I,fun b x e=>k b x (fun q=>?_)<|R.keep b x e,fun b ao e=>?_,fun u M=>?_,R.nodup,by simpa using aC,fun p K=>?_⟩;subst q;rw[Z.2.1]at e;trivial;obtain⟨n,x,U⟩:=R.objs b ao e;exact⟨n,x,k b x (fun q=>by subst q;rw[Z.2.2.1]at e;trivial) U.1,U.2.on b8⟩;have X:=R.fr u M;have ne:u.L≠a:=fun q=>Z.2.2.2.1<|aW q<|List.mem_map_of_mem M;obtain⟨C,es,ep,S⟩:=X.1;exact⟨⟨C,es,ep,k _ _ ne S.1,S.2⟩,X.2.1,X.2.2⟩
 .by_cases q:p.1=a
  .have J:p=(a,o'):=by
    rcases mem_append.mp K with w|w
    .exfalso;have:(pre.map (·.1)++a::post.map (·.1)).Nodup:=by simpa using aC
     exact(nodup_append.mp this).2.2 _ (List.mem_map_of_mem w) _ (.head _) q
    .rcases bU w with w|w
     .exact w
     .exfalso;have:(pre.map (·.1)++a::post.map (·.1)).Nodup:=by simpa using aC
      exact(nodup_cons.mp (nodup_append.mp this).2.1).1<|aW q<|List.mem_map_of_mem w
   subst J;exact⟨G,Z.2.1,Z.2.2.1,Z.2.2.2.1,F⟩
  .have:p∈pre++(a,o)::post:=by
    rcases mem_append.mp K with w|w
    .exact mem_append_left _ w
    .rcases bU w with w|w
     .exact absurd (a4 w) q
     .exact mem_append_right _<|.tail _ w
   have Q:=R.pr p this;exact⟨k _ _ q Q.1,Q.2⟩
theorem Rel.upd(R:Rel B ups prot h H){a:Addr}{ao ao' o f}(e:h a=some ao)(Z:H.get? a=some o)(i:ft B (H.update a f) ao' (f o)):Rel B ups prot (h.set a ao') (H.update a f):=
 R.same e (fun O O Y q=>(Heap.get?_update_ne _ _ _ _ Y).trans q) (Heap.get?_update_self f Z i.t9) i
set_option genCtorIdx true in
inductive Slot where
 |cA (n:Str)
 |cx (n:Str) (a:Addr)
set_option genInjectivity false in
structure bM where
 env:Env
 L:Addr
 slots:List Slot
 ups:List gs
 prot:List (Addr×Obj)
 act:Bool
 fQ:Addr
noncomputable abbrev fb(v:Option Value):Obj:={cls:=.type "cell",data:=.cell v}
noncomputable def cellsOf(aJ:List Slot)(Z:Addr->Option Value):List (Addr×Obj):=aJ.filterMap fun
 |.cx _ a=>some (a,fb<|Z a)
 |.cA _=>none
def hj(m:Str->Option Value)(Z:Addr->Option Value):Slot->Option V|.cA n=>(m n).map toV|.cx _ a=>(Z a).map toV
def Fits(aJ:List Slot)(m:Str->Option Value)(Z:Addr->Option Value)(l:List (Option V)):Prop:=aJ.map (hj m Z)=l
noncomputable def bM.up(F:bM)(m:Str->Option Value):List gs:=⟨F.env,F.L,m,F.act⟩::F.ups
noncomputable def i4(l:List gs):List Env:=(l.filter (·.act)).map (·.env)
def bM.envs(F:bM):List Env:=i4<|F.up fun O=>none
theorem mv(F:bM)(m):i4 (F.up m)=F.envs:=by unfold bM.envs bM.up i4;cases q:F.act<;>exact nil_append _
inductive aS(B:bY)(F:bM)(J:St)(s:Shared):Prop where
 |mk (t:Still B s) (m:Str->Option Value) (X:Addr->Option Value) (r:Rel B (F.up m) (cellsOf F.slots X++F.prot) J.h s.heap) (f:Fits F.slots m X J.l)
theorem aS.elim{B F J s}{P:Prop}(e:aS B F J s)(k:∀(t:Still B s)(m:Str->Option Value)(Z:Addr->Option Value)(r:Rel B (F.up m) (cellsOf F.slots Z++F.prot) J.h s.heap)(f:Fits F.slots m Z J.l),P):P:=@aS.rec B F J s (fun O=>P) k e
structure bT(F:bM):Prop where
 kind:F.env.scope.kind=.function
 frame:F.env.frame=some F.fQ
 head:bs fun e r=>F.envs=e::r/\e.frame=some F.fQ
 self:F.act=true->F.fQ=F.L
 locals:F.env.locals=F.L
 globals:F.env.globals=mainGlobals
 builtins:F.env.builtins=builtinsNs
 loc:∀n,Slot.cA n∈F.slots->F.env.kindOf n=some .local
 cell:∀n a,Slot.cx n a∈F.slots->F.env.kindOf n=some .cell/\F.env.cells.lookup n=some a
 nodup:(F.slots.map fun|.cA n=>(Sum.inl n:Str⊕Addr)|.cx _ a=>Sum.inr a).Nodup
 ups:∀u∈F.ups,u.act=true->u.env.scope.kind≠.module/\u.env.frame=some u.L
structure b1(F:bM)(A:Around)(U:Option Nat)(j:Nat):Prop where
 handled:A.handled=U.map Value.ref
 frames:A.frames=some F.envs
 guards:A.guards=some []
 depth:A.depth<=400+2*(F.ups.length+1)
 units:A.units+j<=200+60*(F.ups.length+1)
 len:F.ups.length<=95
theorem b1.room{F A U j}(x:b1 F A U j):A.units+64<cLine:=by have t1:=x.units;have bA:=x.len;exact((aT 0x5f0e487818204905e0679020a10014084d5838c00e4028112) t1 bA)
theorem b1.mono{F A U i j}(x:b1 F A U j)(h:i<=j):b1 F A U i:=
 ⟨x.handled,x.frames,x.guards,x.depth,by have:=x.units;exact((bh 0x812617819e40828410502020040840930bc0cf2041400828102) h this),x.len⟩
inductive EPost(B:bY)(F:bM)(E:KE)(e:Value)(s:Shared):Prop where
 |mk (J:St) (a:Nat) (h:e=.ref a) (R:aS B F J s) (x:∃C,isExc J.h a C) (k:E a J)
theorem EPost.elim{B F E e s}{P:Prop}(z:EPost B F E e s)(k:∀(J:St)(a:Nat)(h:e=.ref a)(R:aS B F J s)(x:∃C,isExc J.h a C)(k:E a J),P):P:=@EPost.rec B F E e s (fun O=>P) k z
structure G{aq:Type}(B:bY)(F:bM)(A:Around)(t:Sem aq)(K:aq->St->Prop)(E:KE)(J:St):Prop where
 run:∀s,aS B F J s->wpAny (model B.prog B.w) A t (fun a mw=>dk (fun ir=>aS B F ir mw) fun ir=>K a ir) (EPost B F E) s
abbrev cX(B:bY)(F:bM)(A:Around)(t:Sem Value)(K:fM)(E:KE)(J:St):Prop:=G B F A t (fun v J=>K (toV v) J) E J
variable{F:bM}{A:Around}{E:KE}{J:St}{aq ck:Type}
theorem aS.toks{s}(R:aS B F J s)(n):aS B F J {s with toks:=n}:=let⟨t,m,ub,r,f⟩:=R;⟨t,m,ub,r,f⟩
theorem G.pure{a:aq}{K}(k:K a J):G B F A (pure a) K E J:=⟨fun O R=>wpAny_pure ⟨J,R,k⟩⟩
theorem G.bind{m}{f:aq->Sem ck}{K}(h:G B F A m (fun a Z=>G B F A (f a) K E Z) E J):G B F A (m>>=f) K E J:=⟨fun s R=>wpAny_bind (wpAny_mono (h.run s R) (fun _ Y X=>X.elim fun O bC k=>k.run Y bC) fun O O x=>x)⟩
theorem G.mono{m:Sem aq}{K cy Y}(h:G B F A m K E J)(X:∀a J,K a J->cy a J)(W:∀a J,E a J->Y a J):G B F A m cy Y J:=⟨fun s R=>wpAny_mono (h.run s R) (fun a _ V=>V.elim fun Z bC k=>⟨Z,bC,X a Z k⟩) fun _ _ U=>U.elim fun Z a q bC x k=>⟨Z,a,q,bC,x,W a Z k⟩⟩
theorem G.post{m:Sem aq}{K cy}(h:G B F A m K E J)(Z:∀a J,K a J->cy a J):G B F A m cy E J:=h.mono Z fun O O x=>x
theorem G.holding{ad}{m:Sem aq}{K}(h:G B F A m K E J):G B F A (holding ad m) K E J:=⟨fun s R=>wpAny_holding<|h.run s R⟩
theorem G.standAt{p K}(k:K () J):G B F A (standAt p) K E J:=⟨fun O R=>wpAny_standAt ⟨J,R,k⟩⟩
theorem G.rule{t K}(k:K () J):G B F A (rule t) K E J:=⟨fun O R=>wpAny_rule ⟨J,R,k⟩⟩
theorem G.val{t r K}(h:∀s,aS B F J s->∀(Q:Value->Shared->Prop)(Y:Value->Shared->Prop),(∀v n,toV v=r->Q v {s with toks:=n})->wpAny (model B.prog B.w) A t Q Y s)(k:K r J):cX B F A t K E J:=⟨fun s R=>h s R _ _ fun v n e=>⟨J,R.toks n,by exact Z e k⟩⟩
theorem G.bool{t r K}(h:∀s,aS B F J s->∀(Q:Bool->Shared->Prop)(Z:Value->Shared->Prop),(∀n,Q r {s with toks:=n})->wpAny (model B.prog B.w) A t Q Z s)(k:K r J):G B F A t K E J:=⟨fun s R=>h s R _ _ fun n=>⟨J,R.toks n,k⟩⟩
theorem G.new{t ao K}(h:∀s,aS B F J s->∀(Q:Value->Shared->Prop)(Z:Value->Shared->Prop),(∀o n,ft B (s.heap.push o) ao o->Q (.ref s.heap.objs.size) {s with heap:=s.heap.push o,toks:=n})->wpAny (model B.prog B.w) A t Q Z s)(k:hM ao K J):cX B F A t K E J:=⟨fun s R=>h s R _ _ fun o n i=>by obtain⟨st,m,Y,r,f⟩:=R;exact⟨{J with h:=J.h.set s.heap.objs.size ao},⟨st,m,Y,r.alloc i,f⟩,k _ r.fresh⟩⟩
theorem G.change{t}{a:Addr}{ao}{ao':Nat->dM}{r:aq->Prop}{K}(e:J.h a=some ao)(h:∀s o,aS B F J s->s.heap.get? a=some o->ft B s.heap ao o->∀(Q:aq->Shared->Prop)(W:Value->Shared->Prop),
   (∀v H' o' n Z,r v->(∀b o,b≠a->s.heap.get? b=some o->H'.get? b=some o)->H'.get? a=some o'->ft B H' (ao' Z) o'->Q v {s with heap:=H',toks:=n})->wpAny (model B.prog B.w) A t Q W s) (k:∀v Z,r v->K v {J with h:=J.h.set a (ao' Z)}):G B F A t K E J:=⟨fun s R=>by
 refine(id R).elim fun st m V Y f=>?_;obtain⟨_,o,U,i⟩:=Y.objs _ _ e;exact h s o R U i _ _ fun v H' o' n Z T S X j=>⟨{J with h:=J.h.set a (ao' Z)},⟨st,m,V,Y.same e S X j,f⟩,k v Z T⟩⟩
noncomputable def uc:V->Option Unit|.a5=>some ()|_=>none
noncomputable def ud:V->Option Bool|.aP b=>some b|_=>none
noncomputable def ue:V->Option Int|.ae b=>some b|_=>none
noncomputable def uf:V->Option aa|.S b=>some b|_=>none
noncomputable def ug:V->Option Nat|.Y b=>some b|_=>none
noncomputable def uh:V->Option String|.cg b=>some b|_=>none
noncomputable def ui:V->Option String|.b5 b=>some b|_=>none
theorem mx{v}(h:toV v=.a5):v=.none:=by have e:uc (toV v)=some ():=bn uc h;cases v<;>first|exact no e|rfl
theorem kY{v b}(h:toV v=.aP b):v=.bool b:=by have e:ud (toV v)=some b:=bn ud h;cases v<;>first|exact no e|exact a4<|a2 e
theorem dP{v i}(h:toV v=.ae i):∃t,v=.int i t:=by have e:ue (toV v)=some i:=bn ue h;cases v<;>first|exact no e|(obtain rfl:=a2 e;exact⟨_,rfl⟩)
theorem cN{v s}(h:toV v=.S s):∃t,v=.str (aX s) t:=by have e:uf (toV v)=some s:=bn uf h;cases v<;>first|exact no e|(obtain rfl:=a2 e;exact⟨_,rfl⟩)
theorem b7{v a}(h:toV v=.Y a):v=.ref a:=by have e:ug (toV v)=some a:=bn ug h;cases v<;>first|exact no e|exact a4<|a2 e
theorem oB{v a}(h:toV v=.cg a):v=.type a:=by have e:uh (toV v)=some a:=bn uh h;cases v<;>first|exact no e|exact a4<|a2 e
theorem Aq{v a}(h:toV v=.b5 a):v=.builtin a:=by have e:ui (toV v)=some a:=bn ui h;cases v<;>first|exact no e|exact a4<|a2 e
@[simp]theorem j2(s)(t):toV (.str (aX s) t)=.S s:=by rfl
theorem gP(s):(aX s).length=s.length:=by rfl
theorem hk(s):(aX s).cps.toList=s:=nil_append _
theorem j3(x):aX x.cps.toList=x:=by rfl
theorem uj{a b}(h:aX a=aX b):a=b:=by have:=bn (fun x=>x.cps.toList) h;simpa[aX]using this
theorem uk(a b):aX a++aX b=aX (a++b):=by show Str.append _ _=_;simp[Str.append,aX]
theorem my(a b):(aX a==aX b)=decide (a=b):=by
 by_cases h:a=b
 .subst h;simp
 .have:¬aX a=aX b:=fun e=>h<|uj e;simp[h,this]
theorem hl:sizeLine=16777216:=rfl
variable{U:Option Nat}{j:Nat}
theorem aS.list{a:Addr}{xs s}(R:aS B F J s)(e:J.h a=some (.ag xs)):bs fun items ep=>s.heap.get? a=some ⟨.type "list",none,.seq items ep,#[]⟩/\bo items.toList=xs:=by refine R.elim fun O O O r O=>?_;obtain⟨_,o,Z,items,ep,rfl,q⟩:=r.objs _ _ e;exact⟨items,ep,Z,q⟩
theorem aS.tup{a:Addr}{xs s}(R:aS B F J s)(e:J.h a=some (.an xs)):bs fun items ep=>s.heap.get? a=some ⟨.type "tuple",none,.seq items ep,#[]⟩/\bo items.toList=xs:=by refine R.elim fun O O O r O=>?_;obtain⟨_,o,Z,items,ep,rfl,q⟩:=r.objs _ _ e;exact⟨items,ep,Z,q⟩
theorem fc{H:Heap}{a items ep}(h:H.get? a=some ⟨.type "list",none,.seq items ep,#[]⟩):H.IsList a items:=⟨_,h,rfl,ep,rfl⟩
theorem Ar{H a items ep}(h:H.get? a=some ⟨.type "tuple",none,.seq items ep,#[]⟩):IsTup H a items:=⟨_,h,rfl,ep,rfl⟩
theorem f7{H:Heap}{a items ep}(h:H.get? a=some ⟨.type "tuple",none,.seq items ep,#[]⟩):H.IsTuple a items:=⟨_,h,rfl,ep,rfl⟩
theorem As{l xs}(h:bo l=xs):l.length=xs.length:=by subst h;exact(length_map ..).symm
theorem hm{l xs}(h:bo l=xs)(i:Nat):(l[i]?).map toV=xs[i]?:=by subst h;simp[bo]
theorem size_of{items:Array Value}{xs}(h:bo items.toList=xs):items.size=xs.length:=(As h)
theorem Au{ad K}(Y:ad.length<=16777216)(k:hM (.ag<|bo ad) K J):cX B F A (newList ad) K E J:=
 G.new (ao:=.ag<|bo ad) (fun s R Q W X=>wpAny_newList (X _ _ ⟨ad.toArray,0,rfl,by rfl⟩)<|Z hl Y) k
theorem Av{ad K}(Y:ad.length<=16777216)(k:hM (.an<|bo ad) K J):cX B F A (newTuple ad) K E J:=
 G.new (ao:=.an<|bo ad) (fun s R Q W X=>wpAny_newTuple (X _ _ ⟨ad.toArray,0,rfl,by rfl⟩)<|Z hl Y) k
theorem qL{a}(h:a.natAbs<2^64):Builtin.Int.intBits a<=64:=
 intBits_le_64 (qw h) (qx h)
theorem ul{v p}(k:cM (toV v) p):bs fun i t=>v=.int i t/\p i:=by generalize q:toV v=x at k;cases x<;>first|exact k.elim|(refine(dP q).elim fun t Z=>?_;obtain rfl:=Z;exact⟨_,t,rfl,k⟩)
theorem um{v p}(k:hf (toV v) p):bs fun s t=>v=.str (aX s) t/\p s:=by generalize q:toV v=x at k;cases x<;>first|exact k.elim|(refine(cN q).elim fun t Z=>?_;obtain rfl:=Z;exact⟨_,t,rfl,k⟩)
theorem kZ{v p}(k:i0 (toV v) p):dk (fun a=>v=.ref a) p:=by generalize q:toV v=x at k;cases x<;>first|exact k.elim|exact⟨_,b7 q,k⟩
theorem gQ{u v}{p:Int->Int->Prop}(k:cM (toV u) fun a=>cM (toV v)<|p a):er fun a t b X=>ct (u=.int a t) (v=.int b X) (p a b):=by refine(ul k).elim fun a t Y=>?_;refine(ul Y.2).elim fun b X Z=>?_;exact⟨a,t,b,X,Y.1,Z.1,Z.2⟩
theorem qM{u v}{p:aa->aa->Prop}(k:hf (toV u) fun a=>hf (toV v)<|p a):er fun a t b X=>ct (u=.str (aX a) t) (v=.str (aX b) X) (p a b):=by refine(um k).elim fun a t Y=>?_;refine(um Y.2).elim fun b X Z=>?_;exact⟨a,t,b,X,Y.1,Z.1,Z.2⟩
theorem qN{v y}{P:Prop}{i:Int->Int->Prop}{s:aa->aa->Prop}{r:Nat->Nat->Prop}{f:V->Prop}(f1:∀a,f (.ae a)=cM y (i a))(U:∀a,f (.S a)=hf y (s a))(T:∀a,f (.Y a)=i0 y (r a))(R:∀x,f x->(∃a,x=.ae a)\/(∃a,x=.S a)\/∃a,x=.Y a)(k:f (toV v))(Z:(cM (toV v) fun a=>cM y<|i a)->P)(X:(hf (toV v) fun a=>hf y<|s a)->P)(W:(i0 (toV v) fun a=>i0 y<|r a)->P):P:=by
 rcases R _ k with⟨a,q⟩|⟨a,q⟩|⟨a,q⟩<;>rw[q]at k Z X W
 .exact Z (f1 a▸k)
 .exact X (U a▸k)
 .exact W (T a▸k)
theorem uo{u v}{P:Prop}{i s r}(k:kT (toV u) (toV v) i s r)(W:∀a t b Y,u=.int a t->v=.int b Y->i (a+b)->P)(V:∀a t b Y,u=.str (aX a) t->v=.str (aX b) Y->a.length+b.length<=16777216->s (a++b)->P)(U:∀a b,u=.ref a->v=.ref b->r a b->P):P:=by
 refine qN (f:=fun x=>kT x (toV v) i s r) (fun O=>rfl) (fun O=>rfl) (fun O=>rfl) (fun x k=>?_) k (fun k=>?_) (fun k=>?_) fun k=>?_
 .cases x<;>first|exact k.elim|exact .inl ⟨_,rfl⟩|exact .inr (.inl ⟨_,rfl⟩)|exact .inr<|.inr ⟨_,rfl⟩
 .refine(gQ k).elim fun a t b Y X=>?_;have k:=X.3;exact W a t b Y X.1 X.2 k
 .refine(qM k).elim fun a t b Y Z=>?_;exact V a t b Y Z.1 Z.2 Z.3.1 Z.3.2
 .refine(kZ k).elim fun a T k=>?_;obtain⟨b,S,k⟩:=kZ k;exact U a b T S k
theorem Aw{H u v K}(k:qz H (toV u) (toV v) K J):cX B F A (binaryOp H u v) K E J:=by
 cases H with
 |Add=>
  refine uo (u:=u) (v:=v) (i:=fun c=>K (.ae c) J) (s:=fun c=>K (.S c) J) (r:=fun a b=>ou a b (fun v h=>K v {J with h}) J.h) k (fun a t b T D C I=>?_) (fun a t b T D C l I=>?_) fun a b D C I=>?_<;>subst D C
  .exact G.val (fun s R Q O Y=>PyProof.Rows.add_int<|Y _ _ rfl) I
  .refine G.val (fun s R Q O Y=>PyProof.Rows.add_str (fun T ea=>Y _ _<|by rw[uk,j2]) ?_) I;exact l
  .cases I with|mk z y x k=>refine G.new (fun s R Q O Y=>?_) k;refine(R.list z).elim fun o n N=>?_;refine(R.list y).elim fun m j M=>?_;refine P.add_list N.1 M.1 (Y _ _ ⟨_,0,rfl,?_⟩) ?_;exact Z Array.toList_append<|aW N.2<|aW M.2 map_append;exact Z (size_of N.2)<|Z (size_of M.2)<|Z hl x
 |Sub=>refine(gQ (p:=fun a b=>K (.ae<|a-b) J) k).elim fun a t b T L=>?_;obtain rfl:=L.1;obtain rfl:=L.2;exact G.val (fun s R Q O Y=>PyProof.Rows.sub_int<|Y _ _ rfl) L.3
 |Mult=>refine(gQ (p:=fun a b=>(a.natAbs<2^64\/b.natAbs<2^64)/\K (.ae<|a*b) J) k).elim fun a t b T V=>?_;obtain rfl:=V.1;obtain rfl:=V.2;refine G.val (fun s R Q O Y=>PyProof.Rows.mul_int (Y _ _ rfl) ?_) V.3.2;exact V.3.1.elim (fun q=>IntMulOk.of_left<|qL q) fun q=>IntMulOk.of_right<|qL q
 |FloorDiv=>refine(gQ (p:=fun a b=>b≠0/\b.natAbs<1073741824/\K (.ae<|a.fdiv b) J) k).elim fun a t b T W=>?_;obtain rfl:=W.1;obtain rfl:=W.2;exact G.val (fun s R Q O Y=>PyProof.Rows.floordiv_int W.3.1 (Y _ _ rfl)<|.inl<|PyProof.noPylong_small W.3.2.1) W.3.2.2
 |Mod=>refine(gQ (p:=fun a b=>b≠0/\K (.ae<|a.fmod b) J) k).elim fun a t b T U=>?_;obtain rfl:=U.1;obtain rfl:=U.2;exact G.val (fun s R Q O Y=>PyProof.Rows.mod_int' U.3.1<|Y _ _ rfl) U.3.2
 |Pow=>refine(gQ (p:=fun a b=>0<=b/\b<100/\a.natAbs<1000/\K (.ae<|a^b.toNat) J) k).elim fun a t b T X=>?_;obtain rfl:=X.1;obtain rfl:=X.2;refine G.val (fun s R Q O Y=>PyProof.Rows.pow_int X.3.1 ?_<|Y _ _ rfl) X.3.2.2.2;have w:(Builtin.Int.intBits a:Int)<=64:=Int.ofNat_le.mpr<|qL (a:=a)<|Nat.lt_of_lt_of_le X.3.2.2.1<|aL;exact Int.le_trans (Int.mul_le_mul_of_nonneg_right w X.3.1)<|Int.le_trans (Int.mul_le_mul_of_nonneg_left (Int.le_of_lt X.3.2.1)<|aU)<|aU
 |_=>exact k.elim
structure dl(B:bY):Prop where
 uq:B.h₀.NoLimit
 ur:B.h₀.Ns mainGlobals B.i2
 Ax:B.h₀.Ns builtinsNs B.hi
theorem Ay{B}(bf:dl B){a:Addr}(h:B.h₀.objs.size<=a):(a==sysModules)=false:=by refine bf.uq.elim fun X Z=>?_;have:cStatics<B.h₀.objs.size:=Z.1.lt;have Y:sysModules<cStatics:=lt_succ_self _;simp(iota:=false)only[beq_eq_false_iff_ne,ne_eq];rintro rfl;exact absurd (Nat.lt_trans Y this)<|Nat.not_lt.mpr h
theorem k0(Z)(s):(valueAt Z<|aX s).map toV=aH s (ee Z):=by
 induction Z with
 |nil=>rfl
 |cons p r ab=>
  obtain⟨k,v⟩:=p;simp(iota:=false)only[valueAt,List.find?_cons,ee,map_cons,l8,jT]at ab⊢;by_cases q:k=aX s
  .subst q;simp[hk]
  .have:¬k.cps.toList=s:=fun e=>q (by(refine aW e ?_;rw[j3]));simp(iota:=false)only[q,decide_false,this,if_false];exact ab
theorem Az(Z)(s):(valueAt Z s).map toV=hL s (hO Z):=by
 induction Z with
 |nil=>rfl
 |cons p r ab=>
  obtain⟨k,v⟩:=p;simp(iota:=false)only[valueAt,List.find?_cons,hO,map_cons,tY,tZ]at ab⊢;by_cases q:k=s
  .subst q;simp
  .simp(iota:=false)only[q,decide_false,if_false];exact ab
theorem qO{K}[DecidableEq K]{k s:K}{u v r}(q:k≠s):stored ((k,u)::r) s v=(k,u)::stored r s v:=by unfold stored;simp(iota:=false)only[any_cons,q,decide_false,Bool.false_or];split<;>simp[q]
theorem qP{K}[DecidableEq K]{k:K}{u v r}(aC:(((k,u)::r).map (·.1)).Nodup):stored ((k,u)::r) k v=(k,v)::r:=by
 have h:∀p∈r,p.1≠k:=fun p X e=>(nodup_cons.mp aC).1<|mem_map.mpr ⟨p,X,e⟩;have m:r.map (fun Y=>if Y.1=k then(Y.1,v)else Y)=r:=by
  clear aC;induction r with
  |nil=>rfl
  |cons p r ab=>exact Z map_cons<|Z (ab fun q W=>h q<|.tail _ W)<|Z (if_neg<|h p<|.head _) rfl
 unfold stored;exact Z (if_pos<|by simp)<|Z map_cons<|Z (if_pos rfl)<|Z m rfl
theorem ut(Y)(X:(Y.map (·.1)).Nodup)(s)(v):ee (stored Y (aX s) v)=put s (toV v) (ee Y):=by
 induction Y with
 |nil=>exact bn (fun x=>[(x,toV v)])<|hk s
 |cons p r ab=>obtain⟨k,u⟩:=p;by_cases q:k=aX s;subst q;refine Z (qP X) ?_;show((aX s).cps.toList,toV v)::ee r=put s (toV v) (((aX s).cps.toList,toV u)::ee r);exact(if_pos rfl).symm;exact Z (qO q) ((bn ((k.cps.toList,toV u)::·)<|ab (nodup_cons.mp X).2).trans (if_neg fun e=>q<|by(refine aW e ?_;rw[j3])).symm)
theorem AA(Y)(X:(Y.map (·.1)).Nodup)(s)(v):hO (stored Y s v)=jU s (toV v) (hO Y):=by
 induction Y with
 |nil=>rfl
 |cons p r ab=>obtain⟨k,u⟩:=p;by_cases q:k=s;subst q;exact Z (qP X)<|(if_pos rfl).symm;exact Z (qO q) ((bn ((k,toV u)::·)<|ab (nodup_cons.mp X).2).trans (if_neg q).symm)
theorem aS.av{a:Addr}{es s}(R:aS B F J s){ep}(e:J.h a=some (.av es ep)):∃Z,s.heap.DictOf (strKind B.prog B.w) a Z/\ee Z=es:=by refine R.elim fun O O O r O=>?_;obtain⟨_,o,Y,Z,i,q⟩:=r.objs _ _ e;exact⟨Z,Heap.dictOf_iff.mpr ⟨o,Y,i.of⟩,q⟩
theorem aS.b2{a:Addr}{es s}(R:aS B F J s){ep}(e:J.h a=some (.b2 es ep)):∃Z,s.heap.DictOf (intKind B.prog B.w) a Z/\hO Z=es:=by refine R.elim fun O O O r O=>?_;obtain⟨_,o,Y,Z,i,q⟩:=r.objs _ _ e;exact⟨Z,Heap.dictOf_iff.mpr ⟨o,Y,i.of⟩,q⟩
theorem aS.low(bf:dl B){a:Addr}{ao s}(R:aS B F J s)(e:J.h a=some ao):(a==sysModules)=false:=by
 refine R.elim fun O O O r O=>?_;rcases(r.objs _ _ e).1 with q|q
 .exact Ay bf q
 .exact q.2
theorem is{Z es}(h:ee Z=es):Z.length=es.length:=by subst h;exact(length_map ..).symm
theorem mz{Z es}(h:hO Z=es):Z.length=es.length:=by subst h;exact(length_map ..).symm
theorem oC(bf:dl B){v K}(k:fN (toV v) K J):G B F A (truthy v) K E J:=by
 generalize T:toV v=x at k;cases x with
 |a5=>exact Z (mx T)<|G.bool (fun s R Q U X=>PyProof.Rows.truthy_none<|X _) k
 |aP b=>exact Z (kY T)<|G.bool (fun s R Q U X=>wpAny_truthy_bool<|X _) k
 |ae i=>
  refine(dP T).elim fun t N=>?_;obtain rfl:=N;refine G.bool (fun s R Q U X=>PyProof.Rows.truthy_int ?_) k;have:(i !=0)=decide (i≠0):=by by_cases q:i=0<;>simp[q]
  exact Z this<|X _
 |S x=>
  refine(cN T).elim fun t M=>?_;obtain rfl:=M;refine G.bool (fun s R Q U X=>P.truthy_str (by rw[gP];exact tU k.1) ?_) k.2;have:(((aX x).length:Int) !=0)=decide (x≠[]):=by rw[gP];cases x<;>simp;exact(fun{x y}=>bi_ine.mp) rfl
  exact Z this<|X _
 |Y a=>
  refine Z (b7 T) ?_;cases(show iZ J.h a _ from k)with
  |@list xs V O k=>
   refine G.bool (fun s R Q U X=>?_) k;obtain⟨items,ep,g,q⟩:=R.list V;refine wpAny_truthy_list (fc g) (Z (size_of q)<|(aF kJ) O) ?_;have:(!items.isEmpty)=decide (xs≠[]):=by
    have:=size_of q;cases xs with
    |nil=>have:items=#[]:=Array.eq_empty_of_size_eq_zero this;subst this;rfl
    |cons x r=>
     have bx:items.isEmpty=false:=by rw[Array.isEmpty_eq_false_iff];intro e;replace this:=e▸this;trivial
     simp[bx]
   exact Z this<|X _
  |@av xs _ V O k=>
   refine G.bool (fun s R Q U X=>?_) k;obtain⟨W,g,q⟩:=R.av V;refine wpAny_truthy_dict (R.low bf V) g (Z (is q)<|(aF kJ) O) ?_;have:(!W.isEmpty)=decide (xs≠[]):=by subst q;cases W<;>rfl
   exact Z this<|X _
  |@b2 xs _ V O k=>
   refine G.bool (fun s R Q U X=>?_) k;obtain⟨W,g,q⟩:=R.b2 V;refine wpAny_truthy_dict (R.low bf V) g (Z (mz q)<|(aF kJ) O) ?_;have:(!W.isEmpty)=decide (xs≠[]):=by subst q;cases W<;>rfl
   exact Z this<|X _
 |_=>exact k.elim
theorem qQ(a b:Int):(a==b)=decide (a=b):=by by_cases q:a=b<;>rfl
theorem AB{aq l}{r:List aq}(h:gn l=some r):l=r.map some:=by
 induction l generalizing r with
 |nil=>obtain rfl:=a2 h;rfl
 |cons a l ab=>
  cases a with
  |none=>exact no h
  |some a=>have h:(gn l).map (a::·)=some r:=h;obtain⟨Z,q,rfl⟩:=Option.map_eq_some_iff.mp h;exact a4<|ab q
def j4(Z es:List D)(j:Nat):Bool:=match Z[j]?,es[j]? with|some a,some b=>a.beq b|_,_=>false
theorem AC(n)(f):(List.range<|n+1).all f=(f 0&&(List.range n).all fun j=>f<|j+1):=by refine Z range_succ_eq_map ?_;simp[List.all_map,Function.comp_def]
theorem uu(Y):∀es:List D,D.io Y es=((List.range<|min Y.length es.length).all (j4 Y es)&&Y.length==es.length):=by
 induction Y with
 |nil=>
  intro es;cases es with
  |nil=>rfl
  |cons e t=>exact Z (show min [].length (e::t).length=0 from Nat.zero_min _) rfl
 |cons d r ab=>
  intro es;cases es with
  |nil=>exact Z (show min (d::r).length [].length=0 from Nat.min_zero _) rfl
  |cons e t=>
   (refine Z (show D.io (d::r) (e::t)=(D.beq d e&&D.io r t) from rfl) ?_;rw[ab t,length_cons,length_cons,Nat.add_min_add_right,AC,Bool.and_assoc])
   have:(fun j=>j4 (d::r) (e::t) (j+1))=j4 r t:=rfl;refine Z this ?_;have:(r.length+1==t.length+1)=(r.length==t.length):=by simp
   exact Z this rfl
theorem uv{X es}(h:D.iY X es=true):∀(j:Nat)(a b:D),X[j]?=some a->es[j]?=some b->a.ok b=true:=by
 induction X generalizing es with
 |nil=>exact fun j a b Z O=>no Z
 |cons d r ab=>
  cases es with
  |nil=>exact fun j a b O Y=>no Y
  |cons e t=>
   have h:=Bool.and_eq_true_iff.mp (show(D.ok d e&&D.iY r t)=true from h);intro j a b Z Y;cases j with
   |zero=>exact aW (a2 Z)<|aW (a2 Y) h.1
   |succ j=>exact ab h.2 j a b Z Y
theorem uw{n a h d}(q:dat (n+1) h (.Y a)=some d):bs fun xs l=>ct (h a=some (.an xs)) (gn (xs.map<|dat n h)=some l) (d=.an l):=by
 have q:(match h a with|some (.an xs)=>(gn (xs.map (dat n h))).map D.an|_=>none)=some d:=q;rcases e:h a with _|o
 .replace q:=e▸q;trivial
 .
  replace q:=e▸q;cases o<;>first|exact nomatch (show(none:Option D)=some _ from q)|skip
  next xs=>refine(Option.map_eq_some_iff.mp q).elim fun l Z=>?_;exact⟨xs,l,rfl,Z.1,Z.2.symm⟩
theorem ux{n a h d}(k:∀l,d≠.an l):dat (n+1) h (.Y a)≠some d:=fun q=>by refine(uw q).elim fun O l Z=>?_;exact k l Z.3
theorem mA{n h x i}(q:dat n h x=some (.ae i)):x=.ae i:=by
 cases x with
 |ae=>cases n<;>(cases q;rfl)
 |S=>cases n<;>cases q
 |Y a=>
  cases n with
  |zero=>exact nomatch (show(none:Option D)=some _ from q)
  |succ n=>exact absurd q<|ux<|by intro z;exact nofun
 |_=>cases n<;>exact nomatch (show(none:Option D)=some _ from q)
theorem mB{n h x i}(q:dat n h x=some (.S i)):x=.S i:=by
 cases x with
 |ae=>cases n<;>cases q
 |S=>cases n<;>(cases q;rfl)
 |Y a=>
  cases n with
  |zero=>exact nomatch (show(none:Option D)=some _ from q)
  |succ n=>exact absurd q<|ux<|by intro z;exact nofun
 |_=>cases n<;>exact nomatch (show(none:Option D)=some _ from q)
theorem mC{n h x W}(q:dat n h x=some (.an W)):cP fun m a xs=>cQ (n=m+1) (x=.Y a) (h a=some (.an xs)) (xs.map (dat m h)=W.map some):=by
 cases x with
 |ae=>cases n<;>cases q
 |S=>cases n<;>cases q
 |Y a=>
  cases n with
  |zero=>exact nomatch (show(none:Option D)=some _ from q)
  |succ m=>
   refine(uw q).elim fun xs l Z=>?_;have X:=Z.3
   (injection X with X;subst X)
   exact⟨m,a,xs,rfl,rfl,Z.1,AB Z.2⟩
 |_=>cases n<;>exact nomatch (show(none:Option D)=some _ from q)
theorem oD{aq ck:Type}{f}{l:List aq}{r:List ck}(h:l.map f=r.map some):l.length=r.length/\∀(j:Nat) x,l[j]?=some x->∃y,f x=some y/\r[j]?=some y:=by
 refine⟨by simpa using bn List.length h,fun j x Z=>?_⟩;have:=bn (fun z=>z[j]?) h;simp only[List.getElem?_map,Z,Option.map_some]at this;rcases q:r[j]? with _|y
 .replace this:=q▸this;trivial
 .replace this:=q▸this;exact⟨y,a2 this,rfl⟩
set_option tactic.hygienic true in
theorem AD:∀(n:Nat){A:Around}{s:Shared}(_:aS B F J s){u v:Value}{d e:D},dat n J.h (toV u)=some d->dat n J.h (toV v)=some e->d.ok e=true->A.units+n<cLine->SeqAt.EqAt A s u v (d.beq e):=by
 intro n;induction n with
 |zero=>
  intro A s R u v d e Y X ok T;cases d<;>cases e<;>first|(trivial;done)|skip
  .obtain⟨_,rfl⟩:=dP<|mA Y;obtain⟨_,rfl⟩:=dP (mA X)
   (refine Z (show D.beq (.ae _) (.ae _)=decide _ from rfl) ?_;rw[<-qQ])
   exact SeqAt.EqAt.int_int _ _ _ _
  .obtain⟨_,rfl⟩:=cN<|mB Y;obtain⟨_,rfl⟩:=cN (mB X)
   (refine Z (show D.beq (.S _) (.S _)=decide _ from rfl) ?_;rw[<-my])
   exact SeqAt.EqAt.str_str _ _ _ _
  .obtain⟨m,_,_,q,_⟩:=mC Y;trivial
 |succ n ab=>
  intro A s R u v d e Y X ok T;cases d<;>cases e<;>first|(trivial;done)|skip
  .obtain⟨_,rfl⟩:=dP<|mA Y;obtain⟨_,rfl⟩:=dP (mA X)
   (refine Z (show D.beq (.ae _) (.ae _)=decide _ from rfl) ?_;rw[<-qQ])
   exact SeqAt.EqAt.int_int _ _ _ _
  .obtain⟨_,rfl⟩:=cN<|mB Y;obtain⟨_,rfl⟩:=cN (mB X)
   (refine Z (show D.beq (.S _) (.S _)=decide _ from rfl) ?_;rw[<-my])
   exact SeqAt.EqAt.str_str _ _ _ _
  .rename_i V es;obtain⟨m,a,xs,q,I,Q,P⟩:=mC Y;(injection q with q;subst q);obtain⟨m,b,H,q,G,U,N⟩:=mC X;(injection q with q;subst q);refine Z (b7 I)<|Z (b7 G) ?_;obtain⟨E,k,C,t1⟩:=R.tup Q;obtain⟨z,i,y,bA⟩:=R.tup U;obtain⟨x,w⟩:=oD P;obtain⟨t,r⟩:=oD N;have p:SeqAt.RcAt A s (.ref a) (.ref b) (D.beq (.an V) (.an es)):=by
    (refine Z (show D.beq (.an _) (.an _)=D.io _ _ from rfl) ?_;rw[uu])
    have W:=SeqAt.RcAt.tuples (A:=A) (s:=s) (e:=j4 V es) (f7 C) (f7 y) ((aT 0x210244200a0448008111) T) fun j Y X=>by
     have bq:xs[j]?=some (toV E[j]):=by refine aW (hm t1 j) ?_;simp[Y]
     have eq:H[j]?=some (toV z[j]):=by refine aW (hm bA j) ?_;simp[X]
     obtain⟨d,o,M⟩:=w j _ bq;obtain⟨e,l,L⟩:=r j _ eq;have:=ab (A:=A.in1) R o l (uv (ok:D.iY V es=true) j d e M L)<|(aT 0x210244200a0448088120128111) T;unfold j4;exact Z M<|Z L this
    replace W:=t▸(x▸((size_of bA)▸((size_of t1)▸W)));exact W
   by_cases K:a=b
   .subst K;have:V=es:=by replace U:=Q▸U;cases U;exact(List.map_inj_right fun O O h=>a2 h).mp<|P.symm.trans N
    subst this;rw[eb];exact SeqAt.EqAt.same _
   .exact SeqAt.EqAt.of_refs K p
set_option tactic.hygienic true in
theorem uy{n A s}(R:aS B F J s){a b d e}(T:dat (n+1) J.h (.Y a)=some d)(S:dat (n+1) J.h (.Y b)=some e)(ok:d.ok e=true)(Q:A.units+(n+1)<cLine):
  SeqAt.RcAt A s (.ref a) (.ref b) (d.beq e)/\SeqAt.RcNeAt A s (.ref a) (.ref b) (!d.beq e):=by
 cases d<;>first|(have:=mA T;trivial;done)|(have:=mB T;cases this;done)|skip
 cases e<;>first|(trivial;done)|skip
 rename_i N es;refine(mC T).elim fun m a xs X=>?_;have q:=X.1;(injection q with q;subst q);cases X.2;refine(mC S).elim fun m b G W=>?_;have q:=W.1;(injection q with q;subst q);cases W.2;obtain⟨P,x,M,t1⟩:=R.tup X.3;obtain⟨O,w,L,bA⟩:=R.tup W.3;refine(oD X.4).elim fun E C=>?_;refine(oD W.4).elim fun z y=>?_;have K:∀j(T:j<P.size)(S:j<O.size),SeqAt.EqAt A.in1 s P[j] O[j] (j4 N es j):=fun j T S=>by
  have bq:xs[j]?=some (toV P[j]):=by refine aW (hm t1 j) ?_;simp[T]
  have eq:G[j]?=some (toV O[j]):=by refine aW (hm bA j) ?_;simp[S]
  refine(C j _ bq).elim fun d V=>?_;refine(y j _ eq).elim fun e U=>?_;have:=AD _ (A:=A.in1) R V.1 U.1 (uv (ok:D.iY N es=true) j d e V.2 U.2)<|(aT 0x210244200a0448088120128111) Q;unfold j4;exact Z V.2<|Z U.2 this
 have I:=SeqAt.RcAt.tuples (A:=A) (s:=s) (f7 M) (f7 L) ((aT 0x210244200a0448008111) Q) K;have H:=SeqAt.RcNeAt.tuples (A:=A) (s:=s) (f7 M) (f7 L) ((aT 0x210244200a0448008111) Q) K;rw[size_of t1,size_of bA,E,z]at I H
 (refine Z (show D.beq (.an _) (.an _)=D.io _ _ from rfl) ?_;rw[uu])
 exact⟨I,H⟩
structure qR(B:bY)(W:bS):Prop where
 ax:∀a xs,W.ax a=some xs->∃items,B.h₀.IsList a items/\bo items.toList=xs
theorem uz{x}{t:Tok}:∀{l:List Value}{xs:List V},bo l=xs->xs.all V.isStr=true->l.any (fun y=>decide (toV y=.S x))=dh (.S x) xs:=by
 intro l;induction l with
 |nil=>intro xs h O;subst h;rfl
 |cons v r ab=>intro xs h a;subst h;simp(iota:=false)only[bo,map_cons,all_cons,Bool.and_eq_true]at a;refine Z any_cons<|Z (ab rfl a.2) ?_;congr 1;exact decide_eq_decide.mpr eq_comm
theorem uA{x}:∀{l:List Value}{xs:List V},bo l=xs->xs.all V.isInt=true->l.any (fun y=>decide (toV y=.ae x))=dh (.ae x) xs:=by
 intro l;induction l with
 |nil=>intro xs h O;subst h;rfl
 |cons v r ab=>intro xs h a;subst h;simp(iota:=false)only[bo,map_cons,all_cons,Bool.and_eq_true]at a;refine Z any_cons<|Z (ab rfl a.2) ?_;congr 1;exact decide_eq_decide.mpr eq_comm
theorem qS{v:V}(h:v.isStr=true):∃s,v=.S s:=by cases v<;>first|exact L.jP h|exact⟨_,rfl⟩
theorem qT{v:V}(h:v.isInt=true):∃s,v=.ae s:=by cases v<;>first|exact L.jP h|exact⟨_,rfl⟩
variable{W:bS}
theorem oE{A s x t}{items:Array Value}{xs}(q:bo items.toList=xs)(a:xs.all V.isStr=true):
  ∀y,y∈items->SeqAt.EqAt A s y (.str (aX x) t) (decide (toV y=.S x)):=fun y X=>by
 have:toV y∈xs:=aW q<|List.mem_map_of_mem<|Array.mem_toList_iff.mpr X;refine(qS<|List.all_eq_true.mp a _ this).elim fun z W=>?_;refine(cN W).elim fun u Y=>?_;obtain rfl:=Y;rw[j2];have:decide (V.S z=V.S x)=(aX z==aX x):=by rw[my];simp
 exact Z this<|SeqAt.EqAt.str_str _ _ _ _
theorem oF{A s x t}{items:Array Value}{xs}(q:bo items.toList=xs)(a:xs.all V.isInt=true):
  ∀y,y∈items->SeqAt.EqAt A s y (.int x t) (decide (toV y=.ae x)):=fun y X=>by
 have:toV y∈xs:=aW q<|List.mem_map_of_mem<|Array.mem_toList_iff.mpr X;refine(qT<|List.all_eq_true.mp a _ this).elim fun z W=>?_;refine(dP W).elim fun u Y=>?_;obtain rfl:=Y;have:decide (toV (.int z u)=V.ae x)=(z==x):=(decide_eq_decide.mpr ⟨V.ae.inj,bn V.ae⟩).trans (qQ ..).symm;exact Z this<|SeqAt.EqAt.int_int _ _ _ _
theorem oG(items:Array Value)(p):items.any p=items.toList.any p:=by simp
theorem uB(bf:dl B){u v K}(k:Ah (toV u) (toV v) K J)(neg:Bool):
  cX B F A (compareOp (if neg then .NotIn else .In) u v) (fun x J=>∃b,x=.aP (if neg then !b else b)/\K b J) E J:=by
 generalize H:toV u=i at k;generalize D:toV v=h at k;cases k with
 |@av x a _ es V k=>
  refine Z (b7 D)<|(cN H).elim fun t n=>?_;obtain rfl:=n;refine G.val (r:=.aP (if neg then !(aH x es).isSome else(aH x es).isSome)) (fun s R Q m X=>?_) ⟨_,rfl,k⟩;refine(R.av V).elim fun O N=>?_;have e:(valueAt O (aX x)).isSome=(aH x es).isSome:=by(refine aW N.2 ?_;rw[<-k0]);simp
  cases neg with
  |false=>exact wpAny_in_of (strKind_is _ _ _ _) (R.low bf V) N.1.mapOf<|X _ _<|a4 e
  |true=>exact wpAny_notIn_of (strKind_is _ _ _ _) (R.low bf V) N.1.mapOf<|X _ _<|Z e rfl
 |@b2 x a _ es V k=>
  refine Z (b7 D)<|(dP H).elim fun t C=>?_;obtain rfl:=C;refine G.val (r:=.aP (if neg then !(hL x es).isSome else(hL x es).isSome)) (fun s R Q m X=>?_) ⟨_,rfl,k⟩;refine(R.b2 V).elim fun O U=>?_;have e:(valueAt O x).isSome=(hL x es).isSome:=by(refine aW U.2 ?_;rw[<-Az]);simp
  cases neg with
  |false=>exact wpAny_in_of (intKind_is _ _ _ _) (R.low bf V) U.1.mapOf<|X _ _<|a4 e
  |true=>exact wpAny_notIn_of (intKind_is _ _ _ _) (R.low bf V) U.1.mapOf<|X _ _<|Z e rfl
 |@list _ a xs V M j l=>
  refine Z (b7 D) ?_;subst H;refine G.val (r:=.aP (if neg then !(dh (toV u) xs)else dh (toV u) xs)) (fun s R Q m X=>?_) ⟨_,rfl,l⟩;refine(R.list V).elim fun items ep L=>?_;have g:=L.1;have q:=L.2;rw[Bool.or_eq_true,Bool.and_eq_true,Bool.and_eq_true]at M;rcases M with⟨T,W⟩|⟨T,W⟩
  .refine(qS T).elim fun x P=>?_;refine(cN P).elim fun t z=>?_;obtain rfl:=z;rw[j2]at X;have Y:=oG items fun y=>decide (toV y=.S x);replace Y:=(uz (t:=t) q W)▸Y;cases neg with
   |false=>exact SeqAt.in_listAt _ (fc g) (oE q W)<|X _ _<|a4 Y
   |true=>exact SeqAt.notIn_listAt _ (fc g) (oE q W)<|X _ _<|Z Y rfl
  .refine(qT T).elim fun x P=>?_;refine(dP P).elim fun t w=>?_;obtain rfl:=w;have Y:=oG items fun y=>decide (toV y=.ae x);replace Y:=(uA q W)▸Y;cases neg with
   |false=>exact SeqAt.in_listAt _ (fc g) (oF q W)<|X _ _<|a4 Y
   |true=>exact SeqAt.notIn_listAt _ (fc g) (oF q W)<|X _ _<|Z Y rfl
 |@tup _ a xs V M j l=>
  refine Z (b7 D) ?_;subst H;refine G.val (r:=.aP (if neg then !(dh (toV u) xs)else dh (toV u) xs)) (fun s R Q m X=>?_) ⟨_,rfl,l⟩;refine(R.tup V).elim fun items ep I=>?_;have g:=I.1;have q:=I.2;rw[Bool.or_eq_true,Bool.and_eq_true,Bool.and_eq_true]at M;rcases M with⟨T,W⟩|⟨T,W⟩
  .refine(qS T).elim fun x P=>?_;refine(cN P).elim fun t p=>?_;obtain rfl:=p;rw[j2]at X;have Y:=oG items fun y=>decide (toV y=.S x);replace Y:=(uz (t:=t) q W)▸Y;cases neg with
   |false=>exact SeqAt.in_tupleAt _ (f7 g) (oE q W)<|X _ _<|a4 Y
   |true=>exact SeqAt.notIn_tupleAt _ (f7 g) (oE q W)<|X _ _<|Z Y rfl
  .refine(qT T).elim fun x P=>?_;refine(dP P).elim fun t o=>?_;obtain rfl:=o;have Y:=oG items fun y=>decide (toV y=.ae x);replace Y:=(uA q W)▸Y;cases neg with
   |false=>exact SeqAt.in_tupleAt _ (f7 g) (oF q W)<|X _ _<|a4 Y
   |true=>exact SeqAt.notIn_tupleAt _ (f7 g) (oF q W)<|X _ _<|Z Y rfl
def AE(K:KB)(x:V)(J:St):Prop:=∃b,x=.aP b/\K b J
theorem k1(bf:dl B)(hA:b1 F A U j){c u v K}(k:jW c (toV u) (toV v) K J):cX B F A (compareOp c u v) (AE K) E J:=by
 have z:=hA.room;have l:∀{K:KB}{P:Prop},(kU J.h (toV u) (toV v) fun b=>K b J)->(∀a t b X,u=.int a t->v=.int b X->K (decide (a=b)) J->P)->(∀a t b X,u=.str (aX a) t->v=.str (aX b) X->K (decide (a=b)) J->P)->
   (∀a b d e,u=.ref a->v=.ref b->dat 4 J.h (.Y a)=some d->dat 4 J.h (.Y b)=some e->d.ok e=true->K (d.beq e) J->P)->P:=by
  intro K P k y w h3;refine qN (f:=fun x=>kU J.h x (toV v) fun b=>K b J) (fun O=>rfl) (fun O=>rfl) (fun O=>rfl) (fun x k=>?_) k (fun k=>?_) (fun k=>?_) fun k=>?_
  .cases x<;>first|exact k.elim|exact .inl ⟨_,rfl⟩|exact .inr (.inl ⟨_,rfl⟩)|exact .inr<|.inr ⟨_,rfl⟩
  .refine(gQ k).elim fun a t b X N=>?_;exact y a t b X N.1 N.2 N.3
  .refine(qM k).elim fun a t b X M=>?_;exact w a t b X M.1 M.2 M.3
  .refine(kZ k).elim fun a T k=>?_;obtain⟨b,S,d,e,z1,z2,z3,k⟩:=kZ k;exact h3 a b d e T S z1 z2 z3 k
 have nn:∀{p:Prop},mh (toV v) p->v=.none/\p:=fun{p} k=>by generalize q:toV v=x at k;cases x<;>first|exact k.elim|exact⟨mx q,k⟩
 cases c
 .-- Eq
  refine l k (fun a t b X T S V=>?_) (fun a t b X T S V=>?_) fun a b d e T S y w ok V=>?_<;>subst T S
  .exact G.val (fun s R Q W Z=>PyProof.Rows.eq_int<|Z _ _<|by rfl) ⟨_,rfl,V⟩
  .exact G.val (fun s R Q W Z=>PyProof.Rows.eq_str<|Z _ _<|by rw[my];rfl) ⟨_,rfl,V⟩
  .exact G.val (r:=.aP<|d.beq e) (fun s R Q W Z=>(uy (n:=3) R y w ok<|(az 0x22007201408888138228028111) z).1 _ _ _ _<|Z _ _ rfl) ⟨_,rfl,V⟩
 .-- NotEq
  refine l (K:=fun b J=>K (!b) J) k (fun a t b X T S V=>?_) (fun a t b X T S V=>?_) fun a b d e T S y w ok V=>?_<;>subst T S
  .exact G.val (fun s R Q W Z=>PyProof.Rows.ne_int<|Z _ _<|by rfl) ⟨_,rfl,V⟩
  .exact G.val (fun s R Q W Z=>PyProof.Rows.ne_str<|Z _ _<|by rw[bne,my];rfl) ⟨_,rfl,V⟩
  .exact G.val (r:=.aP<|!d.beq e) (fun s R Q W Z=>(uy (n:=3) R y w ok<|(az 0x22007201408888138228028111) z).2 _ _ _ _<|Z _ _ rfl) ⟨_,rfl,V⟩
 .refine(gQ (p:=fun a b=>K (decide (a<b)) J) k).elim fun a t b X L=>?_;obtain rfl:=L.1;obtain rfl:=L.2;exact G.val (fun s R Q W Z=>PyProof.Rows.lt_int<|Z _ _ rfl) ⟨_,rfl,L.3⟩
 .refine qN (f:=fun x=>t2 x (toV v) fun b=>K b J) (r:=fun O O=>False) (fun O=>rfl) (fun O=>rfl) (fun O=>by cases toV v<;>rfl) (fun x k=>?_) k (fun k=>?_) (fun k=>?_) fun k=>?_
  .cases x<;>first|exact k.elim|exact .inl ⟨_,rfl⟩|exact .inr<|.inl ⟨_,rfl⟩
  .refine(gQ k).elim fun a t b X I=>?_;obtain rfl:=I.1;obtain rfl:=I.2;exact G.val (fun s R Q W Z=>PyProof.Rows.le_int<|Z _ _ rfl) ⟨_,rfl,I.3⟩
  .refine(qM k).elim fun a t b X H=>?_;obtain rfl:=H.1;obtain rfl:=H.2;exact G.val (fun s R Q W Z=>P.le_str<|Z _ _<|by rfl) ⟨_,rfl,H.3⟩
  .refine(kZ k).elim fun O O k=>?_;refine(kZ k).elim fun O O k=>?_;exact k.elim
 .refine(gQ (p:=fun a b=>K (decide (b<a)) J) k).elim fun a t b X D=>?_;obtain rfl:=D.1;obtain rfl:=D.2;exact G.val (fun s R Q W Z=>PyProof.Rows.gt_int<|Z _ _ rfl) ⟨_,rfl,D.3⟩
 .refine(gQ (p:=fun a b=>K (decide (b<=a)) J) k).elim fun a t b X C=>?_;obtain rfl:=C.1;obtain rfl:=C.2;exact G.val (fun s R Q W Z=>PyProof.Rows.ge_int<|Z _ _ rfl) ⟨_,rfl,C.3⟩
 .have i:=nn k;obtain rfl:=i.1;refine G.val (r:=.aP<|decide (toV u=.a5)) (fun s R Q W Z=>is_none<|Z _ _ ?_) ⟨_,rfl,i.2⟩;cases u<;>rfl
 .have g:=nn k;obtain rfl:=g.1;refine G.val (r:=.aP<|!decide (toV u=.a5)) (fun s R Q W Z=>isNot_none<|Z _ _ ?_) ⟨_,rfl,g.2⟩;cases u<;>rfl
 .exact(uB bf k false).post fun v J a0=>a0.elim fun b o=>⟨b,o.1,o.2⟩
 .exact(uB bf k true).post fun v J a1=>a1.elim fun b m=>⟨!b,m.1,m.2⟩
theorem AF{items:Array Value}{xs i v}(q:bo items.toList=xs)(h:c9 i xs=some v):∃u,toV u=v/\((0<=i/\items[i.toNat]?=some u)\/(i<0/\-(items.size:Int)<=i/\items[(i+items.size).toNat]?=some u)):=by
 have Y:=size_of q;unfold c9 at h;by_cases c:i<0
 .rw[if_pos c]at h;split at h;trivial
  .rename_i X;have g:=hm q ((xs.length:Int)+i).toNat;rw[h]at g;rcases r:items.toList[((xs.length:Int)+i).toNat]? with _|u
   .rw[r]at g;trivial
   .
    rw[r]at g;refine⟨u,a2 g,.inr ⟨c,by rw[Y];exact Int.le_of_add_le_add_left<|Z (Int.add_right_neg _)<|Int.not_lt.mp X,?_⟩⟩;rw[<-Array.getElem?_toList,<-r,Y,Int.add_comm]
 .rw[if_neg c]at h;have g:=hm q i.toNat;rw[h]at g;rcases r:items.toList[i.toNat]? with _|u
  .rw[r]at g;trivial
  .
   rw[r]at g;exact⟨u,a2 g,.inl ⟨(fun{a b}=>Int.not_lt.mp) c,aW Array.getElem?_toList r⟩⟩
theorem uC{items a xs i t v s}(Y:s.heap.IsList a items)(q:bo items.toList=xs)(W:-(2^62)<i)(V:i<2^62)(h:c9 i xs=some v){Q U}(X:∀u,toV u=v->Q u s):wpAny (model B.prog B.w) A (getItem (.ref a)<|.int i t) Q U s:=by refine(AF q h).elim fun u Z=>?_;obtain⟨c,g⟩|⟨c,T,g⟩:=Z.2;exact wpAny_getItem_list Y c (Int.lt_trans V<|aU) g<|X u Z.1;exact wpAny_getItem_list_neg Y c T (om W rfl) g<|X u Z.1
theorem uD{aq xs i}{v:aq}(h:c9 i xs=some v):∃n,seqIndex? i xs.length=some n/\xs[n]?=some v:=by
 have Y {j:Int} (a:0<=j) (b:j.toNat<xs.length):(decide (0<=j)&&decide (j<(xs.length:Int)))=true:=
  Bool.and_eq_true_iff.mpr ⟨decide_eq_true a,decide_eq_true<|(Int.toNat_lt a).mp b⟩
 unfold c9 at h;unfold seqIndex?;by_cases c:i<0;rw[if_pos c]at h;by_cases X:(xs.length:Int)+i<0;rw[if_pos X]at h;trivial;rw[if_neg X]at h;refine⟨((xs.length:Int)+i).toNat,?_,h⟩;rw[if_pos c,Int.add_comm i];exact if_pos<|Y (Int.not_lt.mp X) (List.getElem?_eq_some_iff.mp h).1;rw[if_neg c]at h;refine⟨i.toNat,?_,h⟩;exact Z (if_neg c)<|if_pos<|Y (Int.not_lt.mp c) (List.getElem?_eq_some_iff.mp h).1
theorem AG(bf:dl B)(hW:qR B W){w L o i K}(I:subscripted L false o i=operate [o,i] (getItem o i))(k:qB W (toV o) (toV i) K J):cX B F A (subscriptTail w L o i) K E J:=by
 generalize Z:toV o=x at k;generalize aj:toV i=y at k;cases k with
 |@ax a xs j v hr X V U T=>
  have Z:=b7 Z;subst Z;refine(dP aj).elim fun q a0=>?_;obtain rfl:=a0;refine G.val (fun s R Q p Y=>?_) T;refine(hW.ax _ _ hr).elim fun items d=>?_;refine R.elim fun O m cv rr O=>?_;have g':s.heap.IsList a items:=by refine d.1.elim fun o H=>?_;have Z:=H.1;have r:=H.2;exact⟨o,rr.keep _ _ Z,r⟩
  exact tail_any g'.typeIs slot_list_getitem.lookup (uC g' d.2 V U X fun u hu=>Y u _ hu) I
 |@str x n c hc V U T=>
  refine(cN Z).elim fun t a1=>?_;obtain rfl:=a1;refine(dP aj).elim fun q a3=>?_;obtain rfl:=a3;refine G.val (fun s R Q p Y=>tail_any (typeIs_str s _ t) PySem.F.slot_str_getitem.lookup (P.getItem_str (c:=c) ?_ ?_<|Y _ _ ?_) I) T
  .simp;exact⟨om V rfl,Int.lt_trans U<|aU⟩
  .refine(uD hc).elim fun m D=>?_;rw[gP,D.1,Option.bind_some];rw[<-Array.getElem?_toList,hk];exact D.2
  .rfl
 |@list a xs n v C X V U T=>have Z:=b7 Z;subst Z;refine(dP aj).elim fun q l=>?_;obtain rfl:=l;refine G.val (fun s R Q p Y=>?_) T;refine(R.list C).elim fun items ep S=>?_;exact tail_any (fc S.1).typeIs slot_list_getitem.lookup (uC (fc S.1) S.2 V U X fun u hu=>Y u _ hu) I
 |@tup a xs n v C X V U T=>
  have Z:=b7 Z;subst Z;refine(dP aj).elim fun q h=>?_;obtain rfl:=h;refine G.val (fun s R Q p Y=>?_) T;refine(R.tup C).elim fun items ep N=>?_;refine(uD X).elim fun m z=>?_;have e1:=z.1;have g:=hm N.2 m;rw[z.2]at g;rcases r:items.toList[m]? with _|u
  .rw[r]at g;trivial
  .
   rw[r]at g;rw[<-size_of N.2]at e1;exact item_tupleT (Ar N.1) (om V rfl) (Int.lt_trans U<|aU) e1 r (Y u _<|a2 g) I
 |@av a _ es x v C X k=>
  have Z:=b7 Z;subst Z;refine(cN aj).elim fun q f=>?_;obtain rfl:=f;refine G.val (fun s R Q p Y=>?_) k;refine(R.av C).elim fun b M=>?_;have e:=k0 b x;rw[M.2,X]at e;rcases r:valueAt b (aX x)with _|u
  .rw[r]at e;trivial
  .rw[r]at e;exact tail_any M.1.mapOf.typeIs slot_dict_getitem.lookup (wpAny_getItem_of (strKind_is _ _ _ _) M.1.mapOf r<|Y u _<|a2 e) I
theorem AH{o i v K}(k:t4 (toV o) (toV i) (toV v) K J):G B F A (setItem o i v) (fun O J=>K J) E J:=by
 generalize V:toV o=x at k;generalize aj:toV i=y at k;cases k with
 |@av a _ es x I H k=>have V:=b7 V;subst V;refine(cN aj).elim fun t M=>?_;obtain rfl:=M;refine G.change (r:=fun O=>True) I (fun s dp R T D Q p C=>?_) fun O z O=>k z;refine D.elim fun q Y=>?_;refine wpAny_setItem_pairs (strKind_is _ _ _ _) (Heap.dictOf_iff.mpr ⟨_,T,Y.1.of⟩) (fun n U w=>?_)<|Z (is Y.2)<|Z hl<|af H;refine(Heap.dictOf_iff.mp U).elim fun o' S=>?_;have W:=S.2;obtain⟨P,W⟩:=gu.ex W;refine C _ _ o' _ P trivial (fun b o u e=>(w.2 b u).trans e) S.1 ⟨_,W,?_⟩;rw[ut _ Y.1.nodup,Y.2]
 |@b2 a _ es x I H k=>have V:=b7 V;subst V;refine(dP aj).elim fun t L=>?_;obtain rfl:=L;refine G.change (r:=fun O=>True) I (fun s dp R T D Q p C=>?_) fun O z O=>k z;refine D.elim fun q X=>?_;refine wpAny_setItem_pairs (intKind_is _ _ _ _) (Heap.dictOf_iff.mpr ⟨_,T,X.1.of⟩) (fun n U w=>?_)<|Z (mz X.2)<|Z hl<|af H;refine(Heap.dictOf_iff.mp U).elim fun o' N=>?_;have W:=N.2;obtain⟨P,W⟩:=gu.ex W;refine C _ _ o' _ P trivial (fun b o u e=>(w.2 b u).trans e) N.1 ⟨_,W,?_⟩;rw[AA _ X.1.nodup,X.2]
end
end
section
open PySem PySem.Calls PyProof.Rows Builtin Builtin.Str
noncomputable def eu.id:eu->String
 |.startswith=>"str.startswith"|.endswith=>"str.endswith"|.find=>"str.find"|.f2=>"str.join"|.lower=>"str.lower"
 |.dN=>"list.append"|.get=>"dict.get"|.pop=>"dict.pop"|.bE _=>"?"
theorem uE(c)(s)(i):(f5 c i s=-1/\∀k:Nat,s[k]?≠some c)\/∃k:Nat,ct (f5 c i s=((i+k:Nat):Int)) (s[k]?=some c) (∀m:Nat,m<k->s[m]?≠some c):=by
 induction s generalizing i with
 |nil=>exact .inl ⟨rfl,fun k e=>by trivial⟩
 |cons d r ab=>
  rw[Af];by_cases h:d=c;exact Z (if_pos h)<|.inr ⟨0,rfl,bn some h,fun m Y=>absurd Y<|not_lt_zero _⟩
  .rw[if_neg h];refine(ab<|i+1).imp (fun q=>⟨q.1,fun k=>?_⟩) fun q=>q.elim fun k q=>q.elim fun e a n=>⟨k+1,by rw[e,Nat.add_assoc,Nat.add_comm 1],a,fun m Y=>?_⟩
   .cases k with
    |zero=>exact fun e=>h<|a2 e
    |succ k=>exact q.2 k
   .cases m with
    |zero=>exact fun e=>h<|a2 e
    |succ m=>exact n m<|lt_of_succ_lt_succ Y
theorem uF(x)(c lo):(match occurrences x ⟨#[c]⟩ lo x.length 1 with|i::_=>(i:Int)|[]=>-1)=f5 c lo (x.cps.toList.drop lo):=by
 have Z:∀i,StrLaws.At x ⟨#[c]⟩ x.length i↔x.cps.toList[i]?=some c:=fun i=>StrLaws.subAt_one x c i;rcases StrLaws.occ_head_from x ⟨#[c]⟩ lo 1 (Nat.le_refl _)with⟨Y,X⟩|⟨i,r,Y,aj,W,X⟩
 .rw[Y];rcases uE c (x.cps.toList.drop lo) lo with⟨e,_⟩|⟨k,e,a,_⟩
  .exact e.symm
  .exact absurd ((Z _).mpr<|List.getElem?_drop.symm.trans a)<|X _ (le_add_right ..)
 .rw[Y];rw[Z]at W;rcases uE c (x.cps.toList.drop lo) lo with⟨e,n⟩|⟨k,e,a,n⟩
  .have:=n<|i-lo;exact absurd W ((Nat.add_sub_cancel' aj)▸(List.getElem?_drop▸this))
  .rw[e];rw[List.getElem?_drop]at a;have V:¬lo+k<i:=fun q=>X _ (le_add_right ..) q<|(Z _).mpr a;have U:¬i-lo<k:=fun q=>by have:=n _ q;exact((Nat.add_sub_cancel' aj)▸(List.getElem?_drop▸this)) W
   show(i:Int)=((lo+k:Nat):Int);congr 1;exact bR ((aT 0x2020028141001108101) V)<|(bh 0xc1000a0484008143020828102) U<|bz aj
theorem AI:∀{l:List Value}{xs:List V}{Z:List aa},bo l=xs->jV xs=some Z->∃Y:List (Str×Tok),l=strValues Y/\Z=Y.map fun p=>p.1.cps.toList:=by
 intro l;induction l with
 |nil=>intro O Z h e;subst h;obtain rfl:=a2 e;exact⟨[],rfl,rfl⟩
 |cons v l ab=>
  intro O Z h e;subst h;have e:jV (toV v::bo l)=some Z:=e;generalize X:toV v=u at e;cases u with
  |S s=>obtain⟨t,rfl⟩:=cN X;obtain⟨T,q,rfl⟩:=Option.map_eq_some_iff.mp e;obtain⟨Y,W,U⟩:=ab rfl q;exact⟨(aX s,t)::Y,a4 W,a4 U⟩
  |_=>exact no e
theorem AJ(Z):∀W:List Str,(Builtin.Str.glued (aX Z) W).cps.toList=eH Z (W.map fun p=>p.cps.toList)
 |[]=>nil_append _
 |[x]=>nil_append _
 |x::y::r=>by
  have V:∀(r:List Str)(Y:Array Nat),(r.foldl (fun Y p=>Y++(aX Z).cps++p.cps) Y).toList=Y.toList++(r.flatMap fun p=>Z++p.cps.toList):=by
   intro r;induction r with
   |nil=>intro Y;simp
   |cons p r ab=>intro Y;rw[foldl_cons,ab];simp[aX]
  have X:∀(r:List Str)(x:aa),eH Z (x::r.map fun p=>p.cps.toList)=x++r.flatMap fun p=>Z++p.cps.toList:=by
   intro r;induction r with
   |nil=>intro x;exact(append_nil x).symm
   |cons p r ab=>intro x;rw[map_cons,md,ab,flatMap_cons,append_assoc,append_assoc]
  unfold Builtin.Str.glued;simp only[drop_succ_cons,drop_zero,headD_cons];rw[V,map_cons,X]
theorem AK{l}(h:bo l=[]):l=[]:=map_eq_nil_iff.mp h
theorem fR{l x}(h:bo l=[x]):∃v,l=[v]/\toV v=x:=by obtain⟨v,r,rfl,Z,Y⟩:=map_eq_cons_iff.mp h;cases map_eq_nil_iff.mp Y;exact⟨v,rfl,Z⟩
theorem k2{l x y}(h:bo l=[x,y]):bs fun v u=>ct (l=[v,u]) (toV v=x) (toV u=y):=by obtain⟨v,r,Z⟩:=map_eq_cons_iff.mp h;obtain rfl:=Z.1;obtain⟨u,rfl,Y⟩:=fR Z.2.2;exact⟨v,u,rfl,Z.2.1,Y⟩
theorem AL(k:Str)(p)(r):without (p::r) k=if p.1=k then without r k else p::without r k:=by unfold without;by_cases h:p.1=k<;>simp[h]
theorem AM(Z)(X:(Z.map (·.1)).Nodup)(s):ee (without Z<|aX s)=del s (ee Z):=by
 induction Z with
 |nil=>rfl
 |cons p r ab=>
  obtain⟨k,u⟩:=p;have Y:=nodup_cons.mp X;rw[AL];by_cases q:k=aX s
  .subst q;have W:aX s∉r.map (·.1):=Y.1;rw[if_pos rfl,without_of_not_mem r _ W];simp[ee,ma,hd,hk]
  .have:¬k.cps.toList=s:=fun e=>q (by rw[<-e,j3]);rw[if_neg q];simp only[ee,map_cons,ma,hd,this,if_false];simp only[ee]at ab;exact a4<|ab Y.2
section
variable{B:bY}{W:bS}{F:bM}{A:Around}{E:KE}{J:St}{aq ck:Type}{U:Option Nat}{j:Nat}
theorem AN(bf:dl B){n o as K}(k:t5 (toV o) n (bo as) K J):cX B F A (call (.builtin n.id)<|o::as) K E J:=by
 generalize W:toV o=ov at k;generalize I:bo as=ax at k;have M:∀{a:Nat}{x:aa}{t:Tok}{P:List Value}{es:List (aa×V)}{ep:Nat}{u:V},(P=[]\/∃d,P=[d])->argsOk "dict.pop" ⟨.ref a::.str (aX x) t::P,[]⟩->J.h a=some (.av es ep)->es.length<=16000000->aH x es=some u->
   (∀e,K u {J with h:=J.h.set a (.av (del x es) e)})->cX B F A (call (.builtin eu.pop.id) (.ref a::.str (aX x) t::P)) K E J:=by
  intro a x t P es ep u ad ah T N hu k;refine G.change (r:=fun r=>toV r=u) T (fun s dp R C io Q H X=>?_) fun r e' hr=>Z hr<|k e';obtain⟨L,m⟩:=io;have g:=Heap.dictOf_iff.mpr ⟨_,C,m.1.of⟩;have e:=k0 L x;rw[m.2,hu]at e;rcases r:valueAt L (aX x)with _|w
  .rw[r]at e;trivial
  .
   rw[r]at e;refine call_meetsIn PySem.F.slot_dict_pop g.mapOf.typeIs PySem.F.entry_dict_pop ah (meets_dict_pop_there _ _ (strKind_is _ _ _ _) P ad rfl) ⟨L,w,g,by rw[is m.2,hl];exact af N,r,fun h' U hs=>?_⟩;obtain⟨o',aj⟩:=Heap.dictOf_iff.mp U;have i2:=aj.2;obtain⟨ar,i2⟩:=gu.ex i2;refine X _ _ o' _ ar (a2 e) (fun b o f e=>(hs.2 b f).trans e) aj.1 ⟨_,i2,?_⟩;rw[AM _ m.1.nodup,m.2]
 cases k with
 |@pre x p k=>
  obtain⟨t,rfl⟩:=cN W;obtain⟨v,ak⟩:=fR I;obtain rfl:=ak.1;obtain⟨t',rfl⟩:=cN ak.2;refine G.val (fun s R Q H X=>call_gives PySem.F.slot_str_startswith (typeIs_str s _ t) PySem.F.entry_str_startswith (PySem.F.args_str_startswith_2 _ _) (gives_str_startswith _ _ t t')<|X _ _ ?_) k;refine bn V.aP ?_;unfold mb;rw[StrLaws.subAt_eq,hk,hk,gP,gP,drop_zero];by_cases q:x.take p.length=p
  .have:p.length<=x.length:=by have:=bn List.length q;simp at this;exact((aT 0x800810100204c8088102) this<|Nat.min_le_right p.length x.length)
   simp[q,this]
  .simp[q]
 |@oy x p k=>
  obtain⟨t,rfl⟩:=cN W;obtain⟨v,al⟩:=fR I;obtain rfl:=al.1;obtain⟨t',rfl⟩:=cN al.2;refine G.val (fun s R Q H X=>call_gives PySem.F.slot_str_endswith (typeIs_str s _ t) PySem.F.entry_str_endswith (PySem.F.args_str_endswith_2 _ _) (gives_str_endswith _ _ t t')<|X _ _ ?_) k;refine bn V.aP ?_;unfold mc;rw[StrLaws.subAt_eq,hk,hk,gP,gP];by_cases c:p.length<=x.length
  .have:(x.drop (x.length-p.length)).take p.length=x.drop (x.length-p.length):=take_of_length_le (by simp;exact((aT 0x2021008101041008101)<|bt x.length p.length));rw[this];have hh:∀a b:aa,(a==b)=decide (a=b):=fun a b=>by by_cases h:a=b<;>simp[h]
   rw[hh];simp[c]
  .simp[c]
 |@find x c k=>obtain⟨t,rfl⟩:=cN W;obtain⟨v,am⟩:=fR I;obtain rfl:=am.1;obtain⟨t',rfl⟩:=cN am.2;refine G.val (fun s R Q H X=>call_gives PySem.F.slot_str_find (typeIs_str s _ t) PySem.F.entry_str_find (PySem.F.args_str_find_2 _ _) (gives_str_find _ _ t t')<|X _ _ ?_) k;refine bn V.ae ?_;have:=uF (aX x) c 0;rw[drop_zero,hk]at this;exact this
 |@oz x c i k1 ay k3=>
  obtain⟨t,rfl⟩:=cN W;obtain⟨v,u,a0⟩:=k2 I;obtain rfl:=a0.1;obtain⟨t',rfl⟩:=cN a0.2;obtain⟨au,rfl⟩:=dP a0.3;refine G.val (fun s R Q H X=>call_gives PySem.F.slot_str_find (typeIs_str s _ t) PySem.F.entry_str_find (PySem.F.args_str_find_3 _ _ _) (gives_str_find_from _ _ _ t t' au)<|X _ _ ?_) k3;refine bn V.ae ?_;have e:fromIndex (aX x).length i=i.toNat:=by unfold fromIndex;rw[if_neg<|Int.not_lt_of_ge k1];exact bn Int.toNat<|Int.max_eq_right k1
  rw[e];have:=uF (aX x) c i.toNat;rw[hk]at this;exact this
 |low k=>
  obtain⟨t,rfl⟩:=cN W;rw[AK I];refine G.val (fun s R Q H X=>call_gives PySem.F.slot_str_lower (typeIs_str s _ t) PySem.F.entry_str_lower (PySem.F.args_str_lower_1 _) (gives_str_lower _ t<|by decide+kernel) ⟨?_,X _ _ ?_⟩) k
  .decide+kernel
  .exact bn V.S (by decide+kernel)
 |@join Y a xs l T N hz k=>
  obtain⟨t,rfl⟩:=cN W;obtain⟨v,an⟩:=fR I;obtain rfl:=an.1;rw[b7 an.2];refine G.val (fun s R Q H X=>?_) k;obtain⟨items,ep,ao⟩:=R.list T;obtain⟨D,e1,e2⟩:=AI ao.2 N;have ei:items=(strValues D).toArray:=aW e1 rfl;subst ei;have a1:(D.map (·.1)).map (fun p=>p.cps.toList)=l:=Z e2 List.map_map;have ai:∀(l:List Str)(j:Nat),(l.toArray.foldl (·+·.length+(aX Y).length) j)=j+(b3 (l.map fun p=>p.cps.toList)+Y.length*l.length):=by
   intro l;induction l with
   |nil=>intro j;rfl
   |cons p r ab=>
    intro j;have:=ab<|j+p.length+(aX Y).length;simp only[foldl_toArray']at this⊢;rw[foldl_cons,this];simp only[map_cons,b3,sum_cons,length_cons,Nat.mul_add,Nat.mul_one];have e1:p.length=p.cps.toList.length:=by rfl
    rw[e1,(gP Y:(aX Y).length=Y.length)];generalize Y.length*r.length=z;exact bR (bV 0x820460424012030880800928100)<|bV 0xc10480400492030880848028100
  have f:=ai (D.map (·.1)) 0;rw[a1]at f;have aw:(D.map (·.1)).length=l.length:=by rw[e2];simp
  rw[aw]at f;have a3:b3 l+Y.length*l.length<=16777216:=by
   have e:(Y.length+1)*(l.length+1)=Y.length*l.length+Y.length+l.length+1:=by rw[Nat.add_mul,Nat.mul_add];exact bR (aT 0x812404004940920a05888180128100)<|aT 0x8124140b1103002502480800928100
   exact((bV 0x81280c104908813800000192200281080000019240028102) hz e)
  have a5:((glued (aX Y) (D.map (·.1))).cps.toList)=eH Y l:=by rw[AJ,a1]
  refine call_meets PySem.F.slot_str_join (typeIs_str s _ t) PySem.F.entry_str_join (PySem.F.args_str_join_2 _ _) (meets_str_join_list (aX Y) t a D ?_) ⟨fc ao.1,?_⟩
  .unfold Builtin.Str.tooLong;rw[f,hl];simp;exact a3
  .have dflt:(glued (aX Y) (D.map (·.1))).length<=sizeLine:=by
    have:(glued (aX Y) (D.map (·.1))).length=(eH Y l).length:=a4 a5;rw[this,hl];have jl:∀l:List aa,(eH Y l).length<=b3 l+Y.length*l.length:=by
     intro l;induction l with
     |nil=>exact Nat.le_refl _
     |cons x r ab=>
      cases r with
      |nil=>exact le_add_right _ _
      |cons y r=>rw[md,length_append,length_append];exact bp (Nat.add_le_add_left ab _)<|Nat.le_of_eq<|(Nat.add_assoc _ _ _).trans<|(a4<|(Nat.add_left_comm _ _ _).trans<|a4<|Nat.add_comm _ _).trans (Nat.add_assoc _ _ _).symm
    exact bp (jl l) a3
   cases D with
   |nil=>exact And.intro dflt<|X _ _<|bn V.S a5
   |cons p r=>
    cases r with
    |nil=>exact X _ _ (by subst e2;rfl)
    |cons q r=>exact And.intro dflt<|X _ _<|bn V.S a5
 |@app a xs v T N k=>have W:=b7 W;subst W;obtain⟨u,ap⟩:=fR I;obtain rfl:=ap.1;refine G.change (r:=fun r=>r=.none) (ao':=fun O=>.ag<|xs++[v]) T (fun s dp R C io Q H X=>?_) (fun r O hr=>by subst hr;exact k);obtain⟨items,ep,a6⟩:=io;obtain rfl:=a6.1;refine call_meets PySem.F.slot_list_append (fc C).typeIs PySem.F.entry_list_append (PySem.F.args_list_append_2 _ _) (list_append a items ep u<|Z (size_of a6.2)<|Z hl<|af N) ⟨C,?_⟩;refine X _ _ _ _ 0 rfl (fun b o f e=>(Heap.get?_update_ne _ _ _ _ f).trans e) (Heap.get?_update_self _ C rfl) ⟨items.push u,_,rfl,by simp[bo,<-a6.2,ap.2]⟩
 |@get a _ es x v T k=>have W:=b7 W;subst W;obtain⟨u,w,a7⟩:=k2 I;obtain rfl:=a7.1;obtain⟨t,rfl⟩:=cN a7.2;refine G.val (fun s R Q H X=>?_) k;obtain⟨L,a8⟩:=R.av T;refine call_meetsIn PySem.F.slot_dict_get a8.1.mapOf.typeIs PySem.F.entry_dict_get (PySem.F.args_dict_get_3 _ _ _) (meets_dict_get_default _ _ (strKind_is _ _ _ _) (R.low bf T) w) ⟨_,a8.1.mapOf,X _ _ ?_⟩;rw[<-a7.3,<-a8.2,<-k0];cases valueAt L (aX x)<;>rfl
 |@pop a _ es x v T k1 k=>
  have W:=b7 W;subst W;obtain⟨u,w,a9⟩:=k2 I;obtain rfl:=a9.1;obtain⟨t,rfl⟩:=cN a9.2;cases N:aH x es with
  |some u=>rw[N]at k;exact M (.inr ⟨w,rfl⟩) (PySem.F.args_dict_pop_3 _ _ _) T k1 N k
  |none=>rw[N]at k;refine G.val (fun s R Q H X=>?_) k;obtain⟨L,ac⟩:=R.av T;exact call_meetsIn PySem.F.slot_dict_pop ac.1.mapOf.typeIs PySem.F.entry_dict_pop (PySem.F.args_dict_pop_3 _ _ _) (meets_dict_pop_default _ _ (strKind_is _ _ _ _) (R.low bf T) rfl w) ⟨_,ac.1,Option.map_eq_none_iff.mp (N▸(ac.2▸(k0 L x))),X _ _ a9.3⟩
 |@da a _ es x u T k1 N k=>have W:=b7 W;subst W;obtain⟨u,aq⟩:=fR I;obtain rfl:=aq.1;obtain⟨t,rfl⟩:=cN aq.2;exact M (.inl rfl) (PySem.F.args_dict_pop_2 _ _) T k1 N k
end
end
section
open PySem PySem.Calls PyProof.Rows
noncomputable def Slot.name:Slot->Str|.cA n=>n|.cx n _=>n
section
variable{B:bY}{W:bS}{F:bM}{A:Around}{E:KE}{J:St}{aq ck:Type}{U:Option Nat}{j:Nat}
theorem qU{aJ m Z l}(f:Fits aJ m Z l){i:Nat}{x}(h:aJ[i]?=some x):l[i]?=some (hj m Z x):=by subst f;simp[h]
theorem mD{aJ Z n a}(h:Slot.cx n a∈aJ):(a,fb<|Z a)∈cellsOf aJ Z:=by exact mem_filterMap.mpr ⟨_,h,rfl⟩
theorem wpAny_cellOf{M A E s env n a Q}(h:env.cells.lookup n=some a)(q:Q a s):wpAny M A (cellOf env n) Q E s:=by unfold cellOf;exact Z h<|wpAny_pure q
theorem wpAny_cellGet{M A E s a v Q}(h:s.heap.get? a=some (fb v))(q:Q v s):wpAny M A (cellGet a) Q E s:=by exact wpAny_bind<|wpAny_load h<|wpAny_pure q
theorem wpAny_cellSet{M A E s a v w Q}(h:s.heap.get? a=some (fb v))(q:Q () {s with heap:=s.heap.update a fun o=>{o with data:=.cell w}}):wpAny M A (cellSet a w) Q E s:=by exact wpAny_bind<|wpAny_load h<|wpAny_update h q
theorem qV(Y:bT F):F.env.blockKind=.function:=by unfold Env.blockKind;exact Z Y.kind rfl
theorem uG(Z:bT F):F.env.scope.kind.isAnnotationScope=false:=a4 Z.kind
theorem s_load(X:bT F){i:Nat}{aJ v K}(V:F.slots[i]?=some aJ)(S:J.l[i]?=some (some v))(k:K v J):cX B F A (loadName F.env aJ.name) K E J:=by
 refine⟨fun s R=>?_⟩;refine(id R).elim fun st m U r f=>?_;have e:=qU f V;replace e:=S▸e;have e:=a2 e;have Y:aJ∈F.slots:=mem_of_getElem? V;cases aJ with
 |cA n=>
  simp only[hj]at e;rcases q:m n with _|u
  .replace e:=q▸e;trivial
  .
   replace e:=q▸e;have Q:s.heap.Ns F.env.locals m:=Z X.locals<|(r.fr ⟨F.env,F.L,m,F.act⟩<|.head _).1;refine wpAny_loadName_local X.kind (X.loc n Y) Q q ⟨J,R,?_⟩;exact aW (a2 e) k
 |cx n a=>
  simp only[hj]at e;have T:=X.cell n a Y;rcases q:U a with _|u
  .replace e:=q▸e;trivial
  .
   replace e:=q▸e;have W:=(r.pr (a,fb<|U a)<|mem_append_left _<|mD Y).1;replace W:=q▸W;show wpAny _ _ (loadName F.env n) _ _ _;unfold loadName;refine Z (uG X)<|Z (qV X)<|Z T.1 ?_;refine wpAny_bind<|wpAny_cellOf T.2 ?_;refine wpAny_bind<|wpAny_cellGet W ?_;refine wpAny_pure ⟨J,R,?_⟩;exact aW (a2 e) k
noncomputable def ew:Slot->Str⊕Addr|.cA n=>.inl n|.cx _ a=>.inr a
theorem uH{aJ m X l}(f:Fits aJ m X l)(aC:(aJ.map ew).Nodup){i n}(h:aJ[i]?=some (.cA n))(v):
  Fits aJ (fun x=>if x=n then v else m x) X (l.set i<|v.map toV):=by
 subst f;apply ext_getElem?;intro k;refine Z List.getElem?_map<|Z List.getElem?_set ?_;by_cases q:i=k
 .subst q;have aj:i<aJ.length:=(List.getElem?_eq_some_iff.mp h).1;refine Z h ?_;simp[hj,aj]
 .refine Z (if_neg q)<|Z List.getElem?_map ?_;rcases W:aJ[k]? with _|y
  .rfl
  .
   simp(iota:=false)only[Option.map_some];cases y with
   |cx _ _=>rfl
   |cA Y=>
    simp only[hj];have:Y≠n:=by
     rintro rfl;have V:(aJ.map ew)[i]?=some (.inl Y):=by simp[h,ew]
     have U:(aJ.map ew)[k]?=some (.inl Y):=by simp[W,ew]
     exact q<|(List.getElem?_inj (by simpa using(List.getElem?_eq_some_iff.mp h).1) aC).mp<|V.trans U.symm
    exact Z (if_neg this) rfl
theorem AO{aJ m X l}(f:Fits aJ m X l)(aC:(aJ.map ew).Nodup){i n a}(h:aJ[i]?=some (.cx n a))(v):
  Fits aJ m (fun x=>if x=a then v else X x) (l.set i<|v.map toV):=by
 subst f;apply ext_getElem?;intro k;refine Z List.getElem?_map<|Z List.getElem?_set ?_;by_cases q:i=k
 .subst q;have aj:i<aJ.length:=(List.getElem?_eq_some_iff.mp h).1;refine Z h ?_;simp[hj,aj]
 .refine Z (if_neg q)<|Z List.getElem?_map ?_;rcases W:aJ[k]? with _|y
  .rfl
  .
   simp(iota:=false)only[Option.map_some];cases y with
   |cA _=>rfl
   |cx T Y=>
    simp only[hj];have:Y≠a:=by
     rintro rfl;have V:(aJ.map ew)[i]?=some (.inr Y):=by simp[h,ew]
     have U:(aJ.map ew)[k]?=some (.inr Y):=by simp[W,ew]
     exact q<|(List.getElem?_inj (by simpa using(List.getElem?_eq_some_iff.mp h).1) aC).mp<|V.trans U.symm
    exact Z (if_neg this) rfl
theorem AP{aJ X}{i:Nat}{n a}(aC:(aJ.map ew).Nodup)(h:aJ[i]?=some (.cx n a))(v):
  bs fun pre post=>cellsOf aJ X=pre++(a,fb<|X a)::post/\cellsOf aJ (fun x=>if x=a then v else X x)=pre++(a,fb v)::post:=by
 induction aJ generalizing i with
 |nil=>trivial
 |cons y r ab=>
  have V:=nodup_cons.mp aC;cases i with
  |zero=>
   simp at h;subst h;refine⟨[],cellsOf r X,rfl,?_⟩;have T:∀r:List Slot,Sum.inr a∉r.map ew->cellsOf r (fun x=>if x=a then v else X x)=cellsOf r X:=by
    intro r S;induction r with
    |nil=>rfl
    |cons z r ab=>
     have U:=fun q=>S<|mem_cons_of_mem _ q;cases z with
     |cA _=>exact ab U
     |cx R Y=>
      have:Y≠a:=by rintro rfl;exact S<|.head _
      show(Y,fb (if Y=a then v else X Y))::cellsOf r _=(Y,fb<|X Y)::cellsOf r X;exact Z (if_neg this)<|Z (ab U) rfl
   show(a,fb (if a=a then v else X a))::cellsOf r _=_;exact Z (if_pos rfl)<|Z (T r V.1) rfl
  |succ i=>
   simp at h;refine(ab V.2 h).elim fun pre post W=>?_;cases y with
   |cA _=>exact⟨pre,post,W.1,W.2⟩
   |cx R Y=>
    have:Y≠a:=by rintro rfl;exact V.1<|mem_map.mpr ⟨_,mem_of_getElem? h,rfl⟩
    refine⟨(Y,fb<|X Y)::pre,post,?_,?_⟩;exact a4 W.1;show(Y,fb (if Y=a then v else X Y))::cellsOf r _=_;exact Z (if_neg this)<|Z W.2 rfl
theorem mE(Z:bT F):(F.slots.map ew).Nodup:=by
 have:=Z.nodup;have e:(F.slots.map fun|.cA n=>(Sum.inl n:Str⊕Addr)|.cx _ a=>Sum.inr a)=F.slots.map ew:=by apply map_congr_left;intro x _;cases x<;>rfl
 exact aW e this
theorem uI(Y:bT F){i aJ v}{K:St->Prop}(U:F.slots[i]?=some aJ)(k:K (J.put i<|toV v)):G B F A (storeName F.env aJ.name v) (fun O J=>K J) E J:=by
 refine⟨fun s R=>?_⟩;refine(id R).elim fun st m W r f=>?_;have X:aJ∈F.slots:=mem_of_getElem? U;cases aJ with
 |cA n=>have I:s.heap.Ns F.env.locals m:=Z Y.locals<|(r.fr ⟨F.env,F.L,m,F.act⟩<|.head _).1;refine wpAny_storeName_local (Y.loc n X) I (fun D T V=>⟨J.put i<|toV v,⟨st,_,W,?_,uH f (mE Y) U<|some v⟩,k⟩)<|Z Y.kind rfl;rw[Y.locals]at T V;exact r.frame (fun b o Q e=>(V.2 b Q).trans e) (Nat.le_of_eq V.1.symm) T
 |cx n a=>
  have P:=Y.cell n a X;have N:=(r.pr (a,fb<|W a)<|mem_append_left _<|mD X).1;show wpAny _ _ (storeName F.env n v) _ _ _;unfold storeName;refine Z P.1 ?_;have H:(some NameKind.cell==some NameKind.globalImplicit)=false:=rfl;refine Z H ?_;simp(iota:=false)only[Bool.false_and,Bool.false_eq_true,if_false,Y.kind];have M:(ScopeKind.function==ScopeKind.class)=false:=rfl;simp only[M,Bool.false_and,Bool.false_eq_true,if_false];refine wpAny_bind<|wpAny_cellOf P.2 ?_;refine wpAny_cellSet N ⟨J.put i<|toV v,⟨st,m,_,?_,AO f (mE Y) U<|some v⟩,k⟩;refine(AP (X:=W) (mE Y) U<|some v).elim fun pre post S=>?_;rw[S.1,append_assoc,cons_append]at r;show Rel B (F.up m) (cellsOf F.slots (fun x=>if x=a then some v else W x)++F.prot) J.h (s.heap.update a fun o=>{o with data:=.cell (some v)})
  (rw[S.2,append_assoc];refine Z cons_append ?_)
  refine r.guard (fun b x Q e=>(Heap.get?_update_ne _ _ _ _ Q).trans e) (Nat.le_of_eq ?_) (Heap.get?_update_self _ N rfl)<|aU;exact(Heap.SameBut.update _ _ _).1.symm
theorem i5(Z:bT F){i aJ v}{K:St->Prop}(Y:F.slots[i]?=some aJ)(k:K (J.put i<|toV v)):G B F A (bindName F.env aJ.name v) (fun O J=>K J) E J:=
 ⟨fun s R=>wpAny_bindName<|(uI Z Y k).run s R⟩
set_option genInjectivity false in
structure c2 where
 names:List (Str×NameKind)
 glob:Str->Option V
 dQ:Bool:=false
noncomputable def hP:NameKind->Bool|.local|.cell|.free=>true|_=>false
noncomputable def cF(x:Str):List (Str×NameKind)->Nat->Option Nat|[],_=>none|(n,k)::r,i=>if hP k then(if n=x then some i else cF x r (i+1))else cF x r i
theorem AQ:∀(x:PySem.Str)(Z:Nat)(n:PySem.Str)(k:PySem.NameKind)(r:List (PySem.Str×PySem.NameKind)),cF x ((n,k)::r) Z=if hP k=true then if n=x then some Z else cF x r (Z+1)else cF x r Z:=by intros;rfl
noncomputable def mF(al:c2)(x:Str):Bool:=al.names.lookup x==some .globalImplicit
noncomputable def i6(n:Str):eu:=
 if n=Str.ofString "startswith"then .startswith else if n=Str.ofString "endswith"then .endswith else if n=Str.ofString "find"then .find
 else if n=Str.ofString "join"then .f2 else if n=Str.ofString "lower"then .lower else if n=Str.ofString "append"then .dN
 else if n=Str.ofString "get"then .get else if n=Str.ofString "pop"then .pop else .bE n.cps.toList
noncomputable def qW:Const->Option V
 |.none=>some .a5
 |.bool b=>some<|.aP b
 |.int i=>some<|.ae i
 |.str s=>some<|.S s.cps.toList
 |_=>none
noncomputable def oH:Option Expr->Option aa|some (.Constant (.str s) _ _)=>some s.cps.toList|_=>none
noncomputable def cu{aq:Type}:List (Option aq)->Option (List aq)|[]=>some []|some a::r=>(cu r).map (a::·)|none::_=>none
noncomputable def cBool(Z:BoolOp):List a6->Option a6|[]=>none|[a]=>some a|a::r=>(cBool Z r).map fun b=>match Z with|.And=>.cR a b|.Or=>.dF a b
noncomputable def mG(x:Str):Bool:=!(x==("__debug__":Str))
noncomputable def mH:Expr->Bool|.Call (.Name id _) [] [] _=>id !="super"|_=>true
def Ok{aq:Type}(o:Option aq)(P:aq->Prop):Prop:=∀m,o=some m->P m
variable{P:aq->Prop}{Q:ck->Prop}
theorem Ok.none:Ok (none:Option aq) P:=fun O h=>no h
theorem Ok.some{a}(h:P a):Ok (some a) P:=fun O e=>a2 e▸h
theorem Ok.bind{o:Option aq}{f}(h:∀a,o=.some a->Ok (f a) Q):Ok (o.bind f) Q:=by
 cases o with
 |none=>exact Ok.none
 |some a=>exact h a rfl
theorem Ok.map{o:Option aq}{f}(h:∀a,o=.some a->Q (f a)):Ok (o.map f) Q:=by
 cases o with
 |none=>exact Ok.none
 |some a=>exact Ok.some<|h a rfl
noncomputable def bJ(b:Bool)(o:Option aq):Option aq:=match b with|true=>o|false=>.none
theorem Ok.bJ{b o}(h:b=true->Ok o P):Ok (bJ b o) P:=by
 cases b with
 |true=>exact h rfl
 |false=>exact Ok.none
noncomputable def cY(o:Option aq)(n:Option ck)(s:aq->Option ck):Option ck:=match o with|.none=>n|.some a=>s a
theorem Ok.cY{o:Option aq}{n s}(Z:o=.none->Ok n Q)(h:∀a,o=.some a->Ok (s a) Q):Ok (cY o n s) Q:=by
 cases o with
 |none=>exact Z rfl
 |some a=>exact h a rfl
noncomputable def nil(l:List aq)(o:Option ck):Option ck:=match l with|[]=>o|_::_=>.none
theorem Ok.nil{l:List aq}{o}(h:l=[]->Ok o Q):Ok (nil l o) Q:=by
 cases l with
 |nil=>exact h rfl
 |cons=>exact Ok.none
def one(l:List aq)(k:aq->Option ck):Option ck:=match l with|[]=>.none|a::l=>nil l<|k a
theorem Ok.one{l:List aq}{k}(h:∀a,l=[a]->Ok (k a) Q):Ok (one l k) Q:=by
 cases l with
 |nil=>exact Ok.none
 |cons a l=>exact Ok.nil fun e=>h a<|a4 e
def uJ(al:c2)(x:Str):Option a6:=bJ (mG x)<|cY (cF x al.names 0) (bJ (mF al x)<|(al.glob x).map .k) fun i=>some<|.x i
noncomputable def uK(f:Expr->Option a6)(x:Expr):UnaryOp->Option a6|.Not=>(f x).map .eG|.USub=>(f x).map .cm|_=>none
def uL(f:Expr->Option a6)(l:Expr)(Z:List CmpOp)(Y:List Expr):Option a6:=match Z with
 |[]=>none
 |W::Z=>match Y with
  |[]=>none
  |r::Y=>cY Z.head?
   (nil Z<|nil Y<|bJ (!behindInMarks W r)<|(f l).bind fun a=>(f r).map fun b=>.aA W a b)
   fun X=>one Z fun O=>one Y fun V=>bJ (!behindInMarks X V)<|(f l).bind fun a=>(f r).bind fun b=>(f V).map fun c=>.fq W X a b c
def i7(f:Expr->Option a6)(n:Nat)(Z:List Expr):Option (List a6):=bJ (decide (Z.length<=n))<|cu<|Z.map f
def uM(f:Expr->Option a6)(Z:List Expr)(pos:Pos):Expr->Option a6
 |.Attribute o name ap=>bJ (mH o)<|bJ (ap.endLine==pos.line)<|(f o).bind fun o=>(i7 f 20 Z).map fun Y=>.aZ o (i6 name) Y
 |.Name x p=>(f<|.Name x p).bind fun X=>(i7 f 20 Z).map fun Y=>.bW X Y
 |.Subscript v s p=>(f<|.Subscript v s p).bind fun X=>(i7 f 20 Z).map fun Y=>.bW X Y
 |_=>none
noncomputable def qX(f:Expr->Option a6):Option Expr->Option a6
 |none=>some<|.k .a5
 |some e=>f e
noncomputable def oI:Expr->Option (Option Expr×Option Expr×Option Expr)|.Slice a b c _=>some (a,b,c)|_=>none
def uN(f:Expr->Option a6)(v i:Expr):Option a6:=(f v).bind fun v=>cY (oI i) ((f i).map fun i=>.aE v i) fun s=>cY s.2.2 ((qX f s.1).bind fun a=>(qX f s.2.1).map fun b=>.aJ v a b) fun O=>none
def uO(al:c2)(f:Expr->Option a6)(ad:List Expr):List (Option Expr)->Option a6
 |[]=>nil ad<|some (if al.dQ then .gk else .av [] [])
 |k::ac=>bJ (decide ((k::ac).length=ad.length))<|(cu<|(k::ac).map oH).bind fun aI=>bJ (decide aI.Nodup)<|(i7 f 15 ad).map fun ad=>.av aI ad
def uP(al:c2)(f:Expr->Option a6):Expr->Option a6
 |.Constant c _ _=>(qW c).map .k
 |.Name x _=>uJ al x
 |.BinOp l op r _=>(f l).bind fun a=>(f r).map fun b=>.aM op a b
 |.UnaryOp op x _=>uK f x op
 |.BoolOp op ad _=>(cu<|ad.map f).bind fun l=>bJ (!decide (ad.length<=1))<|cBool op l
 |.Compare l ops rs _=>uL f l ops rs
 |.IfExp t a b _=>(f t).bind fun t=>(f a).bind fun a=>(f b).map fun b=>.aB t a b
 |.Call fn args AR pos=>nil AR<|uM f args pos fn
 |.Attribute v name _=>bJ (mH v)<|(f v).map fun v=>.ce v name.cps.toList
 |.Subscript v i _=>uN f v i
 |.Tuple es _ _=>(i7 f 20 es).map .an
 |.List es _=>(i7 f 20 es).map .ag
 |.Dict ac ad _=>uO al f ad ac
 |_=>none
noncomputable def cp(al:c2):Nat->Expr->Option a6
 |0=>fun O=>none
 |n+1=>uP al<|cp al n
def hQ(al:c2):Expr->Option Nat|.Name x _=>cF x al.names 0|_=>none
theorem uQ{al e i}(h:hQ al e=some i):bs fun x p=>e=.Name x p/\cF x al.names 0=some i:=by cases e<;>first|exact no h|exact⟨_,_,rfl,h⟩
noncomputable def hR:Expr->Bool|.ListComp .. |.SetComp .. |.DictComp .. =>true|_=>false
noncomputable def uR:Expr->Bool|.Tuple ad _ _=>ad.all (constantsAlone 8)&&!ad.all (foldedForSure 8)|_=>false
noncomputable def frees(names:List (Str×NameKind)):List Str:=names.filterMap fun p=>if p.2=.free then some p.1 else none
def eI(x:Str)(names:List (Str×NameKind)):List (Str×NameKind):=(x,.local)::((frees names).map fun n=>(n,NameKind.cell))++names.filter fun p=>decide (p.2=.globalImplicit)
noncomputable def qY(al:c2)(x:Str)(Z:Scope):Bool:=decide (Z.kind=.function)&&decide (x≠".0")&&decide ((Z.names.map (·.1)).Nodup)&&decide (Z.names.lookup x=some .local)
 &&Z.names.all fun p=>(decide (p.2=.local)&&(decide (p.1=x)||decide (p.1=".0")))||(decide (p.2=.free)&&decide (al.names.lookup p.1=some .cell))||decide (p.2=.globalImplicit)
noncomputable def uS:Expr->Option (Expr×List Comprehension×Scope×Pos)|.ListComp e g s p=>some (e,g,s,p)|_=>none
noncomputable def mI:Expr->Option (Str×Pos)|.Name x p=>some (x,p)|_=>none
noncomputable def uT:Expr->Option (List Expr×Nat×Pos)|.Tuple x n p=>some (x,n,p)|_=>none
def uU(al:c2)(n:Nat)(cB:List Expr)(k:Option a6->cj):Option cj:=match cB with
 |[]=>some<|k none
 |c::r=>nil r<|(cp al n c).map fun c=>k<|some c
def qZ(al:c2)(n:Nat)(aO:aa)(Z:Bool)(e:Expr):Option cj:=
 cY (uS e) none fun q=>one q.2.1 fun g=>cY (mI g.target) none fun x=>bJ (decide (g.is_async=0)) (bJ (qY al x.1 q.2.2.1)
   ((cp al n g.iter).bind fun Y=>(cu<|(frees q.2.2.1.names).map fun z=>cF z al.names 0).bind fun bI=>(cp ⟨eI x.1 q.2.2.1.names,al.glob,al.dQ⟩ n q.1).bind fun e=>uU ⟨eI x.1 q.2.2.1.names,al.glob,al.dQ⟩ n g.ifs (.f4 aO Z bI Y e)))
noncomputable def AS(y:Str):Expr->Bool|.ListComp _ _ sc _=>!(sc.names.any fun(n,k)=>n==y&&(k==.local||k==.cell))|_=>false
noncomputable def uV:Stmt->Option (Expr×Expr×Pos)
 |.Assign f8 e p=>one f8 fun t=>some (t,e,p)
 |_=>none
def uW(al:c2)(n:Nat)(s:Stmt):Option cj:=cY (uV s) none fun q=>cY (mI q.1)
 (cY (uT q.1) none fun t=>bJ (decide (t.1.length<=10))<|(cu<|t.1.map<|hQ al).bind fun aO=>bJ (decide aO.Nodup)<|qZ al n aO true q.2.1)
 fun y=>bJ (decide (al.names.lookup y.1=some .local))<|bJ (y.2.line==q.2.1.pos.line)<|bJ (AS y.1 q.2.1)<|(cF y.1 al.names 0).bind fun i=>qZ al n [i] false q.2.1
def isNm(e:Expr):Bool:=(mI e).isSome
def q0(al:c2)(Z:List Expr):Option aa:=bJ (decide (Z.length<=10))<|(cu<|Z.map<|hQ al).bind fun aO=>bJ (decide aO.Nodup)<|some aO
def uX(al:c2)(n:Nat)(e:Expr):Expr->Option cj
 |.Name x _=>(cF x al.names 0).bind fun i=>(cp al n e).map fun e=>.aG i e
 |.Tuple f8 _ _=>bJ (!uR e)<|(q0 al f8).bind fun aO=>(cp al n e).map fun e=>.ev aO e
 |.Attribute o name _=>(cp al n o).bind fun o=>(cp al n e).map fun e=>.cn o name.cps.toList e
 |.Subscript o i _=>cY (oI i) ((cp al n o).bind fun o=>(cp al n i).bind fun i=>(cp al n e).map fun e=>.c0 o i e) fun O=>none
 |_=>none
def uY(al:c2)(n:Nat)(Z:Operator)(e:Expr):Expr->Option cj
 |.Name x _=>(cF x al.names 0).bind fun i=>(cp al n e).map fun e=>.c1 i Z e
 |.Attribute o name _=>(cp al n o).bind fun o=>(cp al n e).map fun e=>.gm o name.cps.toList Z e
 |_=>none
def uZ(al:c2)(n:Nat)(f:List Stmt->Option (List cj))(Z:Expr)(b:List Stmt):Expr->Option cj
 |.Name x _=>(cF x al.names 0).bind fun i=>(cp al n Z).bind fun Z=>(f b).map fun b=>.b6 [i] false Z b
 |.Tuple f8 _ _=>(q0 al f8).bind fun aO=>(cp al n Z).bind fun Z=>(f b).map fun b=>.b6 aO true Z b
 |_=>none
def u0(al:c2)(nm:Option Str)(k:Option Nat->cj):Option cj:=match nm with
 |none=>some<|k none
 |some y=>bJ (al.names.lookup y==some .local)<|(cF y al.names 0).map fun i=>k<|some i
def AT(al:c2)(f:List Stmt->Option (List cj))(b:List Stmt):ExceptHandler->Option cj|.ExceptHandler t nm h _=>cY t none fun t=>cY (mI t) none fun x=>bJ (al.names.lookup x.1==some .globalImplicit) (bJ (decide (x.1=Str.ofString "Raised"))<|(f b).bind fun b=>(f h).bind fun h=>u0 al nm fun i=>.f3 b i h)
def u1(al:c2)(f:List Stmt->Option (List cj))(b b0:List Stmt):List ExceptHandler->Option cj
 |[]=>bJ (!b0.isEmpty)<|(f b).bind fun b=>(f b0).map fun b0=>.im b b0
 |h::Z=>nil Z<|nil b0<|AT al f b h
def AU(al:c2)(n:Nat):Option Expr->Option cj|some e=>(cp al n e).map .ay|none=>some<|.ay<|.k .a5
def u2(al:c2)(n:Nat)(f:List Stmt->Option (List cj)):Stmt->Option cj
 |.Expr e _=>bJ (!hR e)<|bJ (!isNm e)<|(cp al n e).map .bF
 |.Assign f8 e _=>one f8 fun t=>bJ (!hR e)<|uX al n e t
 |.AugAssign t op e _=>uY al n op e t
 |.Return e _=>AU al n e
 |.Raise e c _=>cY c (cY e none fun e=>(cp al n e).map .ca) fun O=>none
 |.If t b o _=>(cp al n t).bind fun t=>(f b).bind fun b=>(f o).map fun o=>.aB t b o
 |.While t b o _=>nil o<|(cp al n t).bind fun t=>(f b).map fun b=>.dO t b
 |.For t it b o _=>nil o<|uZ al n f it b t
 |.Break _=>some .brk
 |.Pass _=>some .pass
 |.Try b h o b0 _=>nil o<|u1 al f b b0 h
 |_=>none
noncomputable def q1(al:c2):Nat->Stmt->Option cj
 |0=>fun O=>none
 |n+1=>fun st=>cY (uW al n st) (u2 al n (fun l=>cu<|l.map<|q1 al n) st) some
def u3(al:c2)(n:Nat)(l:List Stmt):Option (List cj):=cu<|l.map<|q1 al n
def k3(B:bY)(x:Str)(v:V):Prop:=∃u,toV u=v/\(B.i2 x=some u\/(B.i2 x=none/\B.hi x=some u))
structure ey(B:bY)(al:c2)(F:bM):Prop where
 slot:∀x i,cF x al.names 0=some i->∃aJ,F.slots[i]?=some aJ/\aJ.name=x
 loc:∀x i,cF x al.names 0=some i->al.names.lookup x=some .local->F.slots[i]?=some (.cA x)
 u4:∀x i,cF x al.names 0=some i->al.names.lookup x=some .cell->∃a,F.slots[i]?=some (.cx x a)
 glob:∀x v,mF al x=true->al.glob x=some v->F.env.kindOf x=some .globalImplicit/\k3 B x v
theorem AV(bf:dl B)(Y:bT F){x v K}(V:F.env.kindOf x=some .globalImplicit)(U:k3 B x v)(k:K v J):cX B F A (loadName F.env x) K E J:=by
 refine⟨fun s R=>?_⟩;refine U.elim fun u X=>?_;have W:=X.1;have h:=X.2;refine(id R).elim fun st m P r f=>?_;unfold loadName;refine Z (uG Y)<|Z (qV Y)<|Z V ?_;unfold loadGlobal;have T:s.heap.Ns F.env.globals B.i2:=Z Y.globals<|bf.ur.keeps r.keep;have S:s.heap.Ns F.env.builtins B.hi:=Z Y.builtins<|bf.Ax.keeps r.keep;refine wpAny_bind<|wpAny_nsGet T ?_;rcases h with h|⟨h,Q⟩
 .exact Z h<|wpAny_pure ⟨J,R,by show K (toV u) J;refine Z W ?_;exact k⟩
 .refine Z h<|wpAny_bind (wpAny_nsGet S ?_);exact Z Q<|wpAny_pure ⟨J,R,by show K (toV u) J;refine Z W ?_;exact k⟩
theorem G.operate{ad m K}(h:G B F A m K E J):G B F A (operate ad m) K E J:=⟨fun s R=>wpAny_operating<|h.run s R⟩
theorem G.release{l keep K}(k:K () J):G B F A (release l keep) K E J:=⟨fun O R=>wpAny_release ⟨J,R,k⟩⟩
theorem AW{c v K}(h:qW c=some v)(k:K v J):cX B F A (constValue F.env c) K E J:=by
 cases c<;>skip<;>cases h
 .exact G.pure k
 .exact G.pure k
 .exact⟨fun O R=>(show wpAny _ _ (mkInt _) _ _ _ from fun O O O=>⟨J,R.toks _,k⟩)⟩
 .exact⟨fun O R=>(show wpAny _ _ (mkText _) _ _ _ from fun O O O=>⟨J,R.toks _,k⟩)⟩
def bu(B:bY)(W:bS)(F:bM)(e:Expr)(m:a6):Prop:=∀⦃A:Around⦄⦃U:Option Nat⦄⦃K:fM⦄⦃E:KE⦄⦃J:St⦄,b1 F A U 10->wE W U m K E J->cX B F A (eval e F.env) K E J
def ST(B:bY)(W:bS)(F:bM)(e:Expr)(m:a6):Prop:=∀⦃A:Around⦄⦃U:Option Nat⦄⦃K:KB⦄⦃E:KE⦄⦃J:St⦄,b1 F A U 10->wT W U m K E J->G B F A (isTrue e F.env<|eval e F.env) K E J
set_option tactic.hygienic true in
theorem AX{v K}(k:match toV v with|.ae i=>K (.ae<|-i) J|_=>False):cX B F A (unaryOp .USub v) K E J:=by split at k;rename_i i Y;refine(dP Y).elim fun t Z=>?_;obtain rfl:=Z;exact G.val (fun s R Q W X=>PyProof.Rows.neg_int<|X _ _ rfl) k;exact k.elim
theorem AY(bf:dl B){v K}(k:fN (toV v) (fun b J=>K (.aP<|!b) J) J):cX B F A (unaryOp .Not v) K E J:=⟨fun s R=>not_value (wpAny_mono ((oC bf k).run s R) (fun O O h=>h) fun O O x=>x)⟩
theorem fS{aq ck:Type}{f a}{l:List aq}{r:List ck}(h:cu ((a::l).map f)=some r):bs fun b Z=>ct (r=b::Z) (f a=some b) (cu (l.map f)=some Z):=by
 have h:cu (f a::l.map f)=some r:=h;rcases q:f a with _|b
 .exact no (q▸h)
 .
  replace h:=q▸h;refine(Option.map_eq_some_iff.mp (show(cu<|l.map f).map (b::·)=some r from h)).elim fun Z Y=>?_;exact⟨b,Z,Y.2.symm,rfl,Y.1⟩
theorem oJ{aq ck:Type}{f}{l:List aq}{r:List ck}(h:cu (l.map f)=some r):l.length=r.length/\∀(i:Nat) x,l[i]?=some x->∃y,f x=some y/\r[i]?=some y:=by
 induction l generalizing r with
 |nil=>obtain rfl:=a2 h;exact⟨rfl,fun i x Z=>no Z⟩
 |cons a l ab=>
  refine(fS h).elim fun b X Y=>?_;obtain rfl:=Y.1;have t:=ab Y.3;exact⟨bn Nat.succ t.1,fun i x Z=>by
   cases i with
   |zero=>obtain rfl:=a2 Z;exact⟨b,Y.2,rfl⟩
   |succ i=>exact t.2 i x Z⟩
theorem oK{f p}:∀{es:List Expr}{X:List a6}{A:Around}{U:Option Nat}{K:ot}{E:KE}{J:St},b1 F A U 10->cu (es.map f)=some X->(∀e m,f e=some m->bu B W F e m/\∀x p,e≠.Starred x p)->
  wEs W U X K E J->G B F A (spliced<|backTo p<|starEach es F.env) (fun ad J=>ad.length=es.length/\K (bo ad) J) E J:=by
 intro es;induction es with
 |nil=>intro X A U K E J;intro T h O k;obtain rfl:=a2 h;exact⟨fun O R=>spliced_nil ⟨_,R,rfl,k⟩⟩
 |cons e es ab=>
  intro X A U K E J;intro T h M k;refine(fS h).elim fun m w Y=>?_;obtain rfl:=Y.1;obtain⟨C,L⟩:=M e m Y.2;have I:starEach (e::es) F.env=(false,eval e F.env)::starEach es F.env:=by cases e<;>first|rfl|exact absurd rfl<|L _ _
  refine Z I ?_;show G B F _ (spliced<|(false,eval e F.env)::backTo p (starEach es F.env)) _ _ _;refine⟨fun s R=>spliced_cons<|wpAny_mono ((C T k).run s R) (fun v S H=>H.elim fun D Q P=>?_) fun O O x=>x⟩;refine wpAny_mono ((ab T Y.3 M P).run S Q) (fun ad y z=>z.elim fun V N z=>⟨V,N,bn Nat.succ z.1,z.2⟩) fun O O x=>x
end
end
section
open PySem PySem.Calls PyProof.Rows PySem.W
def oL(B:bY)(C:Nat)(n:aa):Prop:=∀{A:Around}{E:Value->Shared->Prop}{s:Shared}{x:Addr}{Y Z:Obj}{v:Value}{Q:Value->Shared->Prop}(e:Bool),(∀b o,B.h₀.get? b=some o->s.heap.get? b=some o)->
 PySem.W.InstAt s.heap x Y C (some Z)->lookIn (aX n) Z=some (some v)->handedIn v=true->Q v {s with toks:=s.toks+1}->wpAny (model B.prog B.w) A (getAttr (.ref x) (aX n) e) Q E s
def q2(B:bY)(C:Nat)(n:aa):Prop:=∀{A:Around}{E:Value->Shared->Prop}{s:Shared}{x d:Addr}{Y X:Obj}{v:Value}{Z:List (Str×Value)}{Q:Unit->Shared->Prop},(∀b o,B.h₀.get? b=some o->s.heap.get? b=some o)->
 PySem.W.InstAt s.heap x Y C (some X)->Y.dict=some d->X.IsDictOf (strKind B.prog B.w) Z->Z.length<=900->
 (∀H' o' V,(∀b o,b≠d->s.heap.get? b=some o->H'.get? b=some o)->H'.get? d=some o'->o'.IsDictOf (strKind B.prog B.w) (stored Z (aX n) v)->Q () {s with heap:=H',toks:=V})->wpAny (model B.prog B.w) A (setAttr (.ref x) (aX n) v) Q E s
def q3(B:bY)(C:Nat)(n:aa):Prop:=∀{A:Around}{E:Value->Shared->Prop}{s:Shared}{x:Addr}{ad:Array Value}{aJ:Array (Option Value)}{v:Value}{Q:Unit->Shared->Prop},(∀b o,B.h₀.get? b=some o->s.heap.get? b=some o)->
 s.heap.get? x=some ⟨.ref C,none,.fields ad,aJ⟩->
 (∀H' Z o',(∀b o,b≠x->s.heap.get? b=some o->H'.get? b=some o)->H'.get? x=some ⟨.ref C,some s.heap.objs.size,.fields ad,aJ⟩->H'.get? s.heap.objs.size=some o'->o'.IsDictOf (strKind B.prog B.w) [(aX n,v)]->Q () {s with heap:=H',toks:=Z})->wpAny (model B.prog B.w) A (setAttr (.ref x) (aX n) v) Q E s
def q4(B:bY)(C:Nat)(n:aa)(f:Nat):Prop:=∀{A:Around}{E:Value->Shared->Prop}{s:Shared}{x:Addr}{Y Z:Obj}{Q:Value×List Value->Shared->Prop}(X:Sem Bool),(∀b o,B.h₀.get? b=some o->s.heap.get? b=some o)->
 PySem.W.InstAt s.heap x Y C (some Z)->lookIn (aX n) Z=some none->Q (.ref f,[.ref x]) s->wpAny (model B.prog B.w) A (getMethod (.ref x) (aX n) X) Q E s
def oM(B:bY)(o:V)(n:aa)(f:V):Prop:=∃Z,toV Z=f/\∀{A:Around}{E:Value->Shared->Prop}{s:Shared}{Y:Value}{Q:Value×List Value->Shared->Prop}(X:Sem Bool),toV Y=o->(∀b o,B.h₀.get? b=some o->s.heap.get? b=some o)->
 (∀n,Q (Z,[]) {s with toks:=n})->wpAny (model B.prog B.w) A (getMethod Y (aX n) X) Q E s
def j5(B:bY)(f:Value):Prop:=∃k,Looks (model B.prog B.w) B.h₀ (keeperOf f) k
structure f9(B:bY)(W:bS)(n:Nat):Prop where
 ax:qR B W
 call:∀{F:bM}{A:Around}{U:Option Nat}{J:St}{X:Value}{ad:List Value}{K:a3 V}{E:a3 Nat},bT F->B.h₀.objs.size<=F.L->F.ups.length+1=n->b1 F A U 8->W.call U (toV X) (bo ad) K E J.h->
  j5 B X/\cX B F A (call X ad) (fun v ir=>ir.l=J.l/\K v ir.h) (fun a ir=>ir.l=J.l/\E a ir.h) J
 attr:∀C m,W.attr C m=true->oL B C m
 ec:∀C m,W.ec C m=true->q2 B C m
 k4:∀C m,W.ec C m=true->q3 B C m
 aZ:∀C m f,W.aZ C m=some f->q4 B C m f
 e9:∀o m f,W.e9 o m=some f->oM B o m f
section
variable{B:bY}{W:bS}{n:Nat}{F:bM}{A:Around}{E:KE}{J:St}{aq ck:Type}{U:Option Nat}{j:Nat}
theorem AZ{prog w l X}(W:KeysOf (strKind prog w) l)(V:Pairs (strKind prog w) l.toList X)(n)(x):
  lookIn x ⟨.type "dict",none,.dict l n,#[]⟩=some (valueAt X x):=by
 have Y:=V.find x;have e:(fun e:DictEntry=>(strKind prog w).is x e.key)=fun e=>e.key.isStr x:=funext fun e=>(isStr_of x e.key).symm;rw[e]at Y;unfold lookIn;dsimp only;cases q:l.toList.find? (fun e=>e.key.isStr x)with
 |some e=>rw[q]at Y;exact a4 Y
 |none=>
  rw[q]at Y;rw[<-Y];have:l.toList.any (·.refKey)=false:=by rw[List.any_eq_false];intro e U;refine(W e<|Array.mem_toList_iff.mp U).elim fun k T=>?_;refine(Value.isStrOf_shape T.1).elim fun t S=>?_;simp[DictEntry.refKey,S]
  exact Z this rfl
theorem u5{prog w}{o:Obj}{Z}(i:o.IsDictOf (strKind prog w) Z):bs fun l ep=>ct (o=⟨.type "dict",none,.dict l ep,#[]⟩) (KeysOf (strKind prog w) l) (Pairs (strKind prog w) l.toList Z):=by obtain⟨l,ep,⟨Y,X,W⟩,U,V,T,_⟩:=i;obtain⟨c,d,S,aJ⟩:=o;simp only at Y X W U;subst Y X W U;exact⟨l,ep,rfl,V,T⟩
theorem aS.own{a d C es s}(R:aS B F J s)(e:J.h a=some (.dt C d)\/∃c,J.h a=some (.bD C d c))(S:J.h d=some (.bK es)):
  cP fun U Z Y=>fI (PySem.W.InstAt s.heap a U C<|some Z) (U.dict=some d) (s.heap.get? d=some Z) (Z.IsDictOf (strKind B.prog B.w) Y) (ee Y=es) (∀x:aa,∃u,lookIn (aX x) Z=some u/\u.map toV=aH x es):=by
 refine R.elim fun O O O r O=>?_;obtain⟨_,Z,X,Y,i,q⟩:=r.objs _ _ S;refine(u5 i).elim fun l ep T=>?_;have look:∀x:aa,∃u,lookIn (aX x) Z=some u/\u.map toV=aH x es:=fun x=>by refine⟨_,by rw[T.1];exact AZ T.2 T.3 ep<|aX x,?_⟩;rw[k0,q]
 rcases e with e|⟨c,e⟩
 .obtain⟨_,U,V,aJ,rfl⟩:=r.objs _ _ e;exact⟨_,Z,Y,⟨V,rfl,rfl,X⟩,rfl,X,i,q,look⟩
 .obtain⟨_,U,V,ad,aJ,b8,rfl,_⟩:=r.objs _ _ e;exact⟨_,Z,Y,⟨V,rfl,rfl,X⟩,rfl,X,i,q,look⟩
theorem aS.keep{s}(R:aS B F J s):∀b o,B.h₀.get? b=some o->s.heap.get? b=some o:=by refine R.elim fun O O O r O=>?_;exact r.keep
theorem A0{v}(h:∀i,toV v≠.b5 i):handedIn v=true:=by cases v<;>first|rfl|exact absurd rfl<|h _
theorem u6(I:f9 B W n){o m e K}(k:ow W (toV o) m K J):cX B F A (getAttr o (aX m) e) K E J:=by
 have go:∀{a C d:Nat}{es:List (aa×V)}{v:V},(J.h a=some (.dt C d)\/∃c,J.h a=some (.bD C d c))->W.attr C m=true->J.h d=some (.bK es)->aH m es=some v->(∀i,v≠.b5 i)->K v J->cX B F A (getAttr (.ref a) (aX m) e) K E J:=by
  intro a C d es v Y H U D X k;refine G.val (fun s R Q t z=>?_) k;refine(R.own Y U).elim fun r q w N=>?_;obtain⟨u,y,S⟩:=N.6 m;rw[D]at S;cases u with
  |none=>exact no S
  |some u=>have M:toV u=v:=a2 S;exact I.attr C m H e R.keep N.1 y (A0<|Z M X)<|z u _ M
 generalize L:toV o=x at k;cases k with
 |inst Y T P O X k=>exact Z (b7 L)<|go (.inl Y) O T P X k
 |exc Y T P O X k=>exact Z (b7 L)<|go (.inr ⟨_,Y⟩) O T P X k
theorem A1{H:Heap}{o o' b}(e:(H.push o).get? b=some o')(q:b≠H.objs.size):H.get? b=some o':=by
 have Z:b<H.objs.size:=by have Y:=Heap.lt_size e;rw[Heap.size_push]at Y;have W:(b:Nat)≠H.objs.size:=q;exact Nat.lt_of_le_of_ne (le_of_lt_succ Y) W
 have X:=Heap.get?_some_iff.mp e;refine Heap.get?_some_iff.mpr ⟨?_,X.2⟩;have:=X.1;simp only[Heap.push]at this;rw[Array.getElem?_push_lt Z]at this;exact(Array.getElem?_eq_getElem Z).trans this
theorem u7(H:f9 B W n){o v m K}(k:qD W (toV o) m (toV v) K J):G B F A (setAttr o (aX m) v) (fun O J=>K J) E J:=by
 have go:∀{a C d:Nat}{es:List (aa×V)},(J.h a=some (.dt C d)\/∃c,J.h a=some (.bD C d c))->W.ec C m=true->J.h d=some (.bK es)->es.length<=100->K {J with h:=J.h.set d (.bK (put m (toV v) es))}->G B F A (setAttr (.ref a) (aX m) v) (fun O J=>K J) E J:=by intro a C d es Y u U X k;refine G.change (r:=fun O=>True) U (fun s dp R a0 N Q E' t=>?_) fun O O O=>k;obtain⟨p,od,a1,I,M,D,z,q,_⟩:=R.own Y U;refine H.ec C m u R.keep I M z (Z (is q)<|af X) fun H' o' y l w j=>t () H' o' y 0 trivial l w ⟨_,j,?_⟩;obtain⟨_,_,_,_,_,_,aC⟩:=z;rw[ut _ aC,q]
 generalize L:toV o=x at k;cases k with
 |inst Y T S X k=>exact Z (b7 L)<|go (.inl Y) S T X k
 |exc Y T S X k=>exact Z (b7 L)<|go (.inr ⟨_,Y⟩) S T X k
 |@dY a C Y S k=>rw[b7 L];refine⟨fun s R=>?_⟩;refine R.elim fun st i g r f=>?_;obtain⟨_,p,P,ad,aJ,rfl,n5,D,M,xc⟩:=r.objs _ _ Y;refine H.k4 C m S r.keep P fun H' y o' kk hx U N=>?_;have r1:=r.alloc (o:=o') (ao:=.bK [(m,toV v)]) ⟨_,N,by rfl⟩;have e1:(J.h.set s.heap.objs.size (.bK [(m,toV v)])) a=some (.dY C):=(if_neg (ne_of_lt (Heap.lt_size P):a≠s.heap.objs.size)).trans Y;have r2:=r1.same (ao':=.bD C s.heap.objs.size {}) (H':=H') e1 (fun b o hb e=>?_) hx ⟨ad,aJ,.none,rfl,n5,fun O=>D,M,.inl rfl,xc,fun q=>by trivial⟩;exact⟨{J with h:=(J.h.set s.heap.objs.size (.bK [(m,toV v)])).set a (.bD C s.heap.objs.size {})},⟨st,i,g,r2,f⟩,k _ r.fresh⟩;by_cases q:b=s.heap.objs.size;subst q;rw[Heap.get?_push_size _ (by obtain⟨_,_,_,q,_⟩:=N;exact Obj.isFreed_of_dict q)]at e;obtain rfl:=a2 e;exact U;exact kk b o hb<|A1 e q
def A2(x:Str):eu->Prop
 |.startswith=>x=Str.ofString "startswith"|.endswith=>x=Str.ofString "endswith"|.find=>x=Str.ofString "find"|.f2=>x=Str.ofString "join"
 |.lower=>x=Str.ofString "lower"|.dN=>x=Str.ofString "append"|.get=>x=Str.ofString "get"|.pop=>x=Str.ofString "pop"|.bE n=>aX n=x
theorem A3(x):A2 x (i6 x):=by unfold i6;split;assumption;split;assumption;split;assumption;split;assumption;split;assumption;split;assumption;split;assumption;split;assumption;exact j3 x
def q5(c:hN)(Y:Value)(n:eu)(Z:Value×List Value):Prop:=match c with|.bi=>Z=(.builtin n.id,[Y])|.fn f self=>toV Z.1=f/\bo Z.2=self
theorem mJ{y t nm id W}{R:hN->Prop}{m}(Y:m.id=id)(aJ:PySem.Slot "str" (Str.ofString nm) id)(V:typeOf (.builtin id)=pure (.type "method_descriptor"))(r:R .bi):
  G B F A (getMethod (.str (aX y) t) (Str.ofString nm) W) (fun U X=>X=J/\∃c,R c/\q5 c (.str (aX y) t) m U) E J:=by
 refine⟨fun s T=>?_⟩;refine getMethod_builtin (typeIs_str s _ t) PySem.F.plainAttrs_str aJ V (fun a e=>by trivial) ⟨J,T,rfl,.bi,r,?_⟩;show _=_;exact Z Y rfl
theorem q6{Y T nm id S}{R:hN->Prop}{m}(Q:∀s,aS B F J s->s.TypeIs Y T)(P:PlainAttrs T)(U:∀s,aS B F J s->∀a,Y=.ref a->∃o,s.heap.get? a=some o/\o.dict=none)(W:m.id=id)(aJ:PySem.Slot T (Str.ofString nm) id)(O:typeOf (.builtin id)=pure (.type "method_descriptor"))(r:R .bi):
  G B F A (getMethod Y (Str.ofString nm) S) (fun N V=>V=J/\∃c,R c/\q5 c Y m N) E J:=by
 refine⟨fun s X=>?_⟩;refine getMethod_builtin (Q s X) P aJ O (U s X) ⟨J,X,rfl,.bi,r,?_⟩;show _=_;exact Z W rfl
theorem oN{a e es}(Y:J.h a=some (.av es e))(s)(X:aS B F J s):∃o,ct (s.heap.get? a=some o) (o.cls=.type "dict") (o.dict=none):=by refine(X.av Y).elim fun T W=>?_;refine(Heap.dictOf_iff.mp W.1).elim fun o Z=>?_;obtain⟨_,_,⟨V,U,_⟩,_⟩:=Z.2;exact⟨o,Z.1,V,U⟩
theorem A4(L:f9 B W n){S x Q R}(k:qE W (toV S) (i6 x) R J):
  G B F A (getMethod S x Q) (fun q I=>I=J/\∃c,R c/\q5 c S (i6 x) q) E J:=by
 have X:=A3 x;generalize i6 x=m at k X⊢;generalize Y:toV S=v at k;cases k with
 |str g k=>
  refine(cN Y).elim fun t K=>?_;obtain rfl:=K;cases m with
  |startswith=>cases X;exact mJ (id:="str.startswith") rfl PySem.F.slot_str_startswith PySem.F.type_str_startswith k
  |endswith=>cases X;exact mJ (id:="str.endswith") rfl PySem.F.slot_str_endswith PySem.F.type_str_endswith k
  |find=>cases X;exact mJ (id:="str.find") rfl PySem.F.slot_str_find PySem.F.type_str_find k
  |f2=>cases X;exact mJ (id:="str.join") rfl PySem.F.slot_str_join PySem.F.type_str_join k
  |lower=>cases X;exact mJ (id:="str.lower") rfl PySem.F.slot_str_lower PySem.F.type_str_lower k
  |_=>trivial
 |cls U k=>have Y:=b7 Y;subst Y;refine(L.e9 _ _ _ U).elim fun p H=>?_;refine⟨fun s Z=>?_⟩;exact aW X<|H.2 Q rfl Z.keep fun n=>⟨J,Z.toks n,rfl,_,k,H.1,rfl⟩
 |@app a xs V k=>
  have Y:=b7 Y;subst Y;cases X;exact q6 (T:="list") (id:="list.append") (fun s Z=>by refine(Z.list V).elim fun items ep l=>?_;exact(fc l.1).typeIs) PySem.F.plainAttrs_list
   (fun s Z b e=>by refine(Z.list V).elim fun items ep j=>?_;(injection e with e;subst e);exact⟨_,j.1,rfl⟩) rfl PySem.F.slot_list_append PySem.F.type_list_append k
 |@get a _ es V k=>
  have Y:=b7 Y;subst Y;cases X;exact q6 (T:="dict") (id:="dict.get") (fun s Z=>by refine(oN V s Z).elim fun o D=>?_;exact⟨o,D.1,D.2⟩) PySem.F.plainAttrs_dict
      (fun s Z b e=>by refine(oN V s Z).elim fun o z=>?_;(injection e with e;subst e);exact⟨o,z.1,z.3⟩) rfl PySem.F.slot_dict_get PySem.F.type_dict_get k
 |@pop a _ es V k=>
  have Y:=b7 Y;subst Y;cases X;exact q6 (T:="dict") (id:="dict.pop") (fun s Z=>by refine(oN V s Z).elim fun o y=>?_;exact⟨o,y.1,y.2⟩) PySem.F.plainAttrs_dict
      (fun s Z b e=>by refine(oN V s Z).elim fun o P=>?_;(injection e with e;subst e);exact⟨o,P.1,P.3⟩) rfl PySem.F.slot_dict_pop PySem.F.type_dict_pop k
 |@own a C d f m es V w i U hc k=>
  have Y:=b7 Y;subst Y;refine⟨fun s Z=>?_⟩;refine(Z.own (.inl V) w).elim fun ox od h O=>?_;refine(O.6 m).elim fun u N=>?_;have r:=N.2;replace r:=i▸r;cases u with
  |some u=>trivial
  |none=>exact aW X<|L.aZ C m f U Q Z.keep O.1 N.1 ⟨J,Z,rfl,_,k,rfl,rfl⟩
 |typ U k=>have Y:=oB Y;subst Y;refine(L.e9 _ _ _ U).elim fun p M=>?_;refine⟨fun s Z=>?_⟩;exact aW X<|M.2 Q rfl Z.keep fun n=>⟨J,Z.toks n,rfl,_,k,M.1,rfl⟩
theorem u8{pos f first f8 K}(V:f8.any (·.1)=false)(h:G B F A (spliced f8) (fun ad Y=>(∃k,Looks (model B.prog B.w) B.h₀ (keeperOf f) k)/\cX B F A (call f<|first++ad) K E Y) E J):cX B F A (callWith pos f first f8 []) K E J:=by
 have U:G B F A (evalArgs f true f8 []) (fun a Y=>a.kw=[]/\(∃k,Looks (model B.prog B.w) B.h₀ (keeperOf f) k)/\cX B F A (call f (first++a.pos)) K E Y) E J:=by
  refine⟨fun s R=>?_⟩;cases f8 with
  |nil=>refine wpAny_bind<|wpAny_mono (h.run s R) (fun ad L T=>T.elim fun Y bC k=>?_) fun O O x=>x;refine wpAny_bind<|wpAny_pure ?_;exact wpAny_holding<|wpAny_bind (wpAny_pure<|wpAny_bind<|wpAny_pure<|wpAny_pure ⟨Y,bC,rfl,k⟩)
  |cons t r=>
   obtain⟨b,x⟩:=t;have I:b=false:=by cases b with|true=>trivial|false=>rfl
   subst I;exact Calls.evalArgs_plain<|wpAny_mono (h.run s R) (fun ad L S=>S.elim fun Y bC k=>⟨Y,bC,rfl,k⟩) fun O O x=>x
 refine G.bind<|G.holding<|U.post fun a Y k=>?_;refine k.2.1.elim fun H W=>?_;have Q:=k.1;refine G.bind<|G.standAt ?_;obtain⟨ap,y⟩:=a;simp only at Q;subst Q;have P:(f8.any (·.1)||([]:List (Option Str×Sem Value)).any (·.1.isNone))=false:=Z V rfl;refine G.bind<|⟨fun s R=>W _ _ _ s R.keep ⟨Y,R,?_⟩⟩;refine Z P ?_;have fin:∀{t:Sem Value},cX B F A t K E Y->G B F A (do let r<-t;holding [r] point;pure r) (fun v J=>K (toV v) J) E Y:=fun D=>G.bind (D.post fun v C N=>G.bind<|G.holding ⟨fun s R=>(show wpAny _ _ point _ _ _ from fun O O O=>⟨_,R,G.pure N⟩)⟩);have X:∀mark,cX B F A (callMarked mark f (first++ap) []) K E Y:=fun mark=>by refine⟨fun s R=>?_⟩;unfold callMarked;intro z p M;rw[Sem.wp_keep];exact k.2.2.run s R z p M
 cases H<;>dsimp only
 .split;exact fin k.2.2;exact fin<|X _
 .split;exact fin k.2.2;exact fin<|X _
 .exact fin k.2.2
 .exact fin<|G.operate k.2.2
theorem A5{l r Z p a b}(X:bu B W F l a)(V:bu B W F r b):bu B W F (.BinOp l Z r p) (.aM Z a b):=by intro A U K E J Y k;show G B F A (do let x<-eval l F.env;let y<-holding [x] (eval r F.env);standAt p;operate [x,y] (binaryOp Z x y)) _ E J;refine G.bind<|(X Y k).post fun x R T=>?_;refine G.bind<|G.holding<|(V Y T).post fun y Q S=>?_;exact G.bind<|G.standAt<|G.operate<|Aw S
theorem A6(bf:dl B){x p a}(Z:bu B W F x a):bu B W F (.UnaryOp .Not x p) (.eG a):=by intro A U K E J Y k;show G B F A (do let v<-eval x F.env;standAt p;holding [v] (unaryOp .Not v)) _ E J;refine G.bind<|(Z Y k).post fun x V X=>?_;exact G.bind<|G.standAt<|G.holding<|AY bf X
theorem A7{x p a}(Z:ST B W F x a):ST B W F (.UnaryOp .Not x p) (.eG a):=by intro A U K E J Y k;exact G.bind<|(Z Y k).post fun b V X=>G.pure X
theorem A8{x p a}(Z:bu B W F x a):bu B W F (.UnaryOp .USub x p) (.cm a):=by intro A U K E J Y k;show G B F A (do let v<-eval x F.env;standAt p;holding [v] (unaryOp .USub v)) _ E J;refine G.bind<|(Z Y k).post fun x V X=>?_;exact G.bind<|G.standAt<|G.holding<|AX X
set_option backward.match.sparseCases true in
theorem A9(bf:dl B)(Z)(p){f es}:∀{S:List a6}{m:a6},cu (es.map f)=some S->cBool Z S=some m->(∀e m,f e=some m->bu B W F e m)->
  ∀{A:Around}{U:Option Nat}{K:fM}{E:KE}{J:St},b1 F A U 10->wE W U m K E J->cX B F A (boolOp p Z<|evalEach es F.env) K E J:=by
 induction es with
 |nil=>intro S m h R;obtain rfl:=a2 h;exact no R
 |cons e es ab=>
  intro S m h R Y A U K E J X k;cases es with
  |nil=>obtain⟨b,r,rfl,Q,V⟩:=fS h;obtain rfl:=a2 V;cases R;exact Y e _ Q X k
  |cons M es=>
   obtain⟨b,r,rfl,Q,V⟩:=fS h;obtain⟨L,I,rfl,D,C⟩:=fS V;obtain⟨a8,q,H⟩:=Option.map_eq_some_iff.mp (show(cBool Z<|L::I).map _=some m from R);show G B F A (do let v<-eval e F.env;standAt p;let t<-holding [v] (truthy v);match Z,t with|.And,false|.Or,true=>pure v|_,_=>boolOp p Z<|evalEach (M::es) F.env) _ E J;subst H;cases Z<;>dsimp only at k
   .refine G.bind<|(Y e _ Q X k).post fun v O P=>G.bind<|G.standAt<|G.bind<|G.holding<|(oC bf P).post fun t N T=>?_;cases t with|true=>exact ab V q Y X T|false=>exact G.pure T
   .refine G.bind<|(Y e _ Q X k).post fun v O P=>G.bind<|G.standAt<|G.bind<|G.holding<|(oC bf P).post fun t N T=>?_;cases t with|true=>exact G.pure T|false=>exact ab V q Y X T
set_option backward.match.sparseCases true in
theorem Ba(Z){f es}:∀{S:List a6}{m:a6},cu (es.map f)=some S->cBool Z S=some m->(∀e m,f e=some m->ST B W F e m)->
  ∀{A:Around}{U:Option Nat}{K:KB}{E:KE}{J:St},b1 F A U 10->wT W U m K E J->G B F A (allTrue Z es F.env) K E J:=by
 induction es with
 |nil=>intro S m h R;obtain rfl:=a2 h;exact no R
 |cons e es ab=>
  intro S m h R X A U K E J V k;cases es with
  |nil=>obtain⟨b,r,rfl,Q,T⟩:=fS h;obtain rfl:=a2 T;cases R;show G B F A (do let x<-isTrue e F.env (eval e F.env);match Z,x with|.And,false=>pure false|.Or,true=>pure true|_,_=>allTrue Z [] F.env) K E J;refine G.bind<|(X e _ Q V k).post fun t P Y=>?_;cases Z<;>cases t<;>exact G.pure Y
  |cons O es=>
   obtain⟨b,r,rfl,Q,T⟩:=fS h;obtain⟨N,M,rfl,I,H⟩:=fS T;obtain⟨a8,q,L⟩:=Option.map_eq_some_iff.mp (show(cBool Z<|N::M).map _=some m from R);show G B F A (do let x<-isTrue e F.env (eval e F.env);match Z,x with|.And,false=>pure false|.Or,true=>pure true|_,_=>allTrue Z (O::es) F.env) K E J;subst L;cases Z<;>dsimp only at k
   .refine G.bind<|(X e _ Q V k).post fun t P Y=>?_;cases t with|true=>exact ab T q X V Y|false=>exact G.pure Y
   .refine G.bind<|(X e _ Q V k).post fun t P Y=>?_;cases t with|true=>exact G.pure Y|false=>exact ab T q X V Y
theorem Bb(bf:dl B){l r Y p a b}(T:behindInMarks Y r=false)(S:bu B W F l a)(R:bu B W F r b):bu B W F (.Compare l [Y] [r] p) (.aA Y a b):=by
 intro A U K E J X k
 (rw[eval_Compare1];refine Z (markedBehindIn_of_false T) ?_)
 refine G.bind<|(S X k).post fun x O Q=>?_;refine G.bind<|G.holding<|(R X Q).post fun y N P=>?_;refine G.bind<|G.standAt<|G.operate<|(k1 bf X P).post fun v M h=>?_;refine h.elim fun b V=>?_;exact Z V.1 V.2
theorem Bc(bf:dl B){l r Y p a b}(T:behindInMarks Y r=false)(S:bu B W F l a)(P:bu B W F r b):ST B W F (.Compare l [Y] [r] p) (.aA Y a b):=by
 intro A U K E J X k
 (rw[isTrue_Compare1];refine Z (markedBehindIn_of_false T) ?_)
 refine G.bind<|(S X k).post fun x L O=>?_;refine G.bind<|G.holding<|(P X O).post fun y I N=>?_;refine G.bind<|G.standAt<|G.bind<|G.operate<|(k1 bf X N).post fun v H h=>?_;obtain⟨b,V⟩:=h;have:=kY V.1;subst this;exact G.holding<|G.bool (fun s R Q D M=>wpAny_truthy_bool<|M _) V.2
theorem aS.u9{B F J s}(R:aS B F J s)(o)(n):aS B F J {s with heap:=s.heap.push o,toks:=n}:=by refine R.elim fun st m Z r f=>?_;exact⟨st,m,Z,r.push o,f⟩
theorem q7{v}(h:iq (toV v)=true):v=.none\/bs fun i t=>ct (v=.int i t) (-(2^62)<i) (i<2^62):=by
 cases v with
 |none=>exact .inl rfl
 |int i t=>exact have h:=Bool.and_eq_true_iff.mp h;.inr ⟨i,t,rfl,aU h.1,aU h.2⟩
 |_=>exact L.jP h
noncomputable def j6:Value->Option (Int×Tok)|.int i t=>some (i,t)|_=>none
theorem va{aq Z Y}{xs X:List aq}(W:iq (toV Z)=true)(V:iq (toV Y)=true)(h:gr (toV Z) (toV Y) xs=some X):
  X=(xs.drop (((j6 Z).map (·.1)).elim 0<|clipAt xs.length)).take ((((j6 Y).map (·.1)).elim xs.length<|clipAt xs.length)-(((j6 Z).map (·.1)).elim 0<|clipAt xs.length)):=by
 rcases q7 W with rfl|⟨i,t,rfl,_,_⟩<;>rcases q7 V with rfl|⟨j,U,rfl,_,_⟩<;>
  (exact(a2 h).symm.trans drop_take)
theorem oO{v}(h:iq (toV v)=true):v=partValue (j6 v)/\IsPart v ((j6 v).map (·.1)):=by
 rcases q7 h with rfl|⟨i,t,rfl,_,_⟩
 .exact⟨rfl,.none⟩
 .exact⟨rfl,.int i t⟩
theorem vb(lo aj)(n):Builtin.Str.strSliceIndices lo aj 1 n=(List.range<|aj.elim n (clipAt n)-lo.elim 0 (clipAt n)).map (lo.elim 0 (clipAt n)+·):=by rw[<-sliceRange_one];have:=sliceBounds_plain lo aj n;unfold sliceBounds at this;unfold Builtin.Str.strSliceIndices;simp(iota:=false)only[Option.getD_none,Prod.mk.injEq]at this;exact aW this.1<|aW this.2.1 rfl
theorem Bd(n)(i):clipAt n i<=n:=
 Int.ofNat_le.mp (clipAt_cast n i▸Int.max_le.mpr ⟨Int.natCast_nonneg n,Int.min_le_right _ _⟩)
theorem Be{x t l u y s Q}(e:y=(x.drop ((l.map (·.1)).elim 0<|clipAt x.length)).take (((u.map (·.1)).elim x.length<|clipAt x.length)-((l.map (·.1)).elim 0<|clipAt x.length)))(T:x.length<=16777216)(X:∀v n,toV v=.S y->Q v {s with toks:=n}):(sliceMade (aX x) t l u none).post Q s:=by
 have R:(slicePicked (aX x) l u none).filterMap ((aX x).cps[·]?)=y:=by unfold slicePicked;simp(iota:=false)only[Option.map_none,Option.getD_none];rw[vb,gP,pick_run,hk,e]
 unfold sliceMade;split
 .rename_i c;simp(iota:=false)only[Option.map_none,Option.getD_none,Bool.and_eq_true,beq_iff_eq,true_and]at c;have:y=x:=by
   have Y:(slicePicked (aX x) l u none).length=x.length:=by(refine Z c ?_;rw[gP])
   unfold slicePicked at Y;simp(iota:=false)only[Option.map_none,Option.getD_none]at Y;rw[vb,gP]at Y;simp(iota:=false)only[length_map,length_range]at Y;refine Z e ?_;have W:(u.map (·.1)).elim x.length (clipAt x.length)<=x.length:=by cases u<;>simp[Bd]
   generalize(l.map (·.1)).elim 0 (clipAt x.length)=p at Y⊢;generalize(u.map (·.1)).elim x.length (clipAt x.length)=q at Y W⊢;by_cases V:x.length=0
   .have:x=[]:=length_eq_zero_iff.mp V;subst this;simp
   .have U:q=x.length:=bR W<|(aT 0x800810100204c8088102) Y<|sub_le q p;have P:p=0:=(eq_zero_or_pos p).elim id fun g=>absurd (U▸Y)<|ne_of_lt<|sub_lt (Nat.pos_of_ne_zero V) g;subst P U;simp
  subst this;exact X _ _<|j2 _ _
 .refine Z R<|⟨?_,X _ _<|j2 _ _⟩;show y.toArray.size<=sizeLine;exact Z hl<|Z e<|bp (length_take_le' _ _)<|Z length_drop<|bp (sub_le _ _) T
theorem Bf{S W o Y X K}(k:qC (toV o) (toV Y) (toV X) K J)(G:∀a,subscripted W false o (.ref a)=operate [.ref a,o] (getItem o<|.ref a)){s}(R:aS B F J s):
  wpAny (model B.prog B.w) A (subscriptTail S W o<|.ref s.heap.objs.size) (fun v q=>dk (fun V=>aS B F V q) fun V=>K (toV v) V) (EPost B F E) {s with heap:=s.heap.push {cls:=.type "slice",data:=.fields #[Y,X,.none]}}:=by
 generalize Q:toV o=i at k;generalize P:toV Y=mK at k;generalize O:toV X=g at k;cases k with
 |@str x y _ _ N M U T L=>subst P O;refine(cN Q).elim fun t I=>?_;obtain rfl:=I;refine tail_any (typeIs_str _ _ t) PySem.F.slot_str_getitem.lookup (wpAny_getItem_str_slice (l:=j6 Y) (u:=j6 X) (st:=none) ?_ rfl ?_)<|G _;refine⟨_,Heap.get?_push_size _ rfl,rfl,?_⟩;exact aW ((oO U).1)<|aW ((oO T).1) rfl;exact Be (va U T N) M fun v n D=>⟨J,R.u9 _ n,Z D L⟩
 |@list a xs C _ _ p N M U T L=>
  subst P O;have Q:=b7 Q;subst Q;refine(R.list p).elim fun items ep H=>?_;have z:=fc<|Heap.get?_push_of_some {cls:=.type "slice",data:=.fields #[Y,X,.none]} H.1;refine tail_any (Heap.IsList.typeIs (s:={s with heap:=s.heap.push {cls:=.type "slice",data:=.fields #[Y,X,.none]}}) z) slot_list_getitem.lookup
   (wpAny_getItem_list_slice z (Heap.IsSliceOf.new ..) (oO U).2 (oO T).2 .none fo ?_<|Z hl<|(az 0x88128000001920204200000064888102) M<|size_of H.2) (G _)
  have bC:=R.u9 {cls:=.type "slice",data:=.fields #[Y,X,.none]} s.toks;refine(id bC).elim fun st m j r f=>?_;refine⟨{J with h:=J.h.set _ (.ag C)},⟨st,m,j,r.alloc (ao:=.ag C) ⟨_,0,rfl,?_⟩,f⟩,L _ r.fresh⟩
  (rw[slicePick_plain];refine Z (va U T N)<|aW H.2 ?_)
  unfold bo;refine Z map_take<|Z map_drop ?_;simp
variable{ups:List gs}{prot:List (Addr×Obj)}{h:ar}{H:Heap}
theorem Rel.ga{pre post}(R:Rel B ups (pre++post) h H)(o)(S:o.cls≠.type "traceback")(Q:o.isFreed=false):Rel B ups (pre++(H.objs.size,o)::post) h (H.push o):=by
 have P:=R.push o;refine⟨P.size,P.keep,P.objs,P.fr,P.nodup,?_,fun p V=>?_⟩
 .have aC:=R.dG;replace aC:=map_append▸aC;have U:=nodup_append.mp aC;refine Z map_append<|Z map_cons ?_;have fr:∀p∈pre++post,p.1≠H.objs.size:=fun p V q=>absurd (R.qK V)<|Z q<|Nat.lt_irrefl _;refine nodup_append.mpr ⟨U.1,nodup_cons.mpr ⟨fun q=>?_,U.2.1⟩,fun x T y O e=>?_⟩;refine(mem_map.mp q).elim fun p Y=>?_;exact fr p (mem_append_right _ Y.1) Y.2
  .refine(mem_map.mp T).elim fun p X=>?_;rcases bU O with w|w
   .exact fr p (mem_append_left _ X.1)<|X.2.trans<|e.trans w
   .exact U.2.2 x T y w e
 .rcases mem_append.mp V with w|w
  .exact P.pr p<|mem_append_left _ w
  .rcases bU w with w|w
   .subst w;refine⟨Heap.get?_push_size _ Q,R.qI,R.fresh,fun q=>?_,S⟩;refine(mem_map.mp q).elim fun u W=>?_;exact absurd (R.qJ W.1)<|Z W.2<|Nat.lt_irrefl _
   .exact P.pr p<|mem_append_right _ w
theorem Rel.drop{pre post a o}(R:Rel B ups (pre++(a,o)::post) h H):Rel B ups (pre++post) h H:=by
 refine⟨R.size,R.keep,R.objs,R.fr,R.nodup,?_,fun p X=>R.pr p ?_⟩;have aC:=R.dG;replace aC:=map_cons▸(map_append▸aC);have Y:=nodup_append.mp aC;exact Z map_append<|nodup_append.mpr ⟨Y.1,(nodup_cons.mp Y.2.1).2,fun x W y V=>Y.2.2 x W y<|.tail _ V⟩
 .rcases mem_append.mp X with w|w
  .exact mem_append_left _ w
  .exact mem_append_right _<|.tail _ w
set_option tactic.hygienic true in
theorem Rel.adopt{pre post}{a:Addr}{o ao}(R:Rel B ups (pre++(a,o)::post) h H)(T:B.h₀.objs.size<=a)(i:ft B H ao o):Rel B ups (pre++post) (h.set a ao) H:=by
 have D:=R.drop;have X:=R.pr (a,o) cw;refine⟨D.size,D.keep,fun b ao' e=>?_,fun u W=>?_,D.nodup,D.dG,fun p V=>?_⟩
 .unfold ar.set at e;split at e;rename_i q;subst q;obtain rfl:=a2 e;exact⟨.inl T,o,X.1,i⟩;exact D.objs b ao' e
 .have Y:=D.fr u W;refine⟨Y.1,Y.2.1,?_⟩;exact(if_neg fun q=>X.2.2.2.1<|by refine aW q ?_;exact List.mem_map_of_mem W).trans Y.2.2
 .have Z:=D.pr p V;refine⟨Z.1,Z.2.1,?_,Z.2.2.2⟩;unfold ar.set;rw[if_neg ?_];exact Z.2.2.1
  .intro q;have aC:=R.dG;replace aC:=map_cons▸(map_append▸aC);have U:=nodup_append.mp aC;rcases mem_append.mp V with w|w
   .exact U.2.2 _ (List.mem_map_of_mem w) _ (.head _) q
   .exact(nodup_cons.mp U.2.1).1<|mem_map.mpr ⟨p,w,q⟩
noncomputable def bM.guard(F:bM)(a:Addr)(o:Obj):bM:={F with prot:=(a,o)::F.prot}
theorem bT.guard(Z:bT F)(a)(o):bT (F.guard a o):=⟨Z.kind,Z.frame,Z.head,Z.self,Z.locals,Z.globals,Z.builtins,Z.loc,Z.cell,Z.nodup,Z.ups⟩
theorem b1.guard(Z:b1 F A U j)(a)(o):b1 (F.guard a o) A U j:=⟨Z.handled,Z.frames,Z.guards,Z.depth,Z.units,Z.len⟩
theorem ey.guard{al}(Z:ey B al F)(a)(o):ey B al (F.guard a o):=⟨Z.slot,Z.loc,Z.u4,Z.glob⟩
theorem aS.k5{a o s}(R:aS B (F.guard a o) J s):aS B F J s:=by refine R.elim fun st m Z r f=>?_;exact⟨st,m,Z,r.drop,f⟩
theorem EPost.k5{a o e s}(x:EPost B (F.guard a o) E e s):EPost B F E e s:=by refine x.elim fun J a Z R Y X=>?_;exact⟨J,a,Z,R.k5,Y,X⟩
theorem vc{o name env}(h:mH o=true)(Z):attributeBase o name env Z=Z:=by
 cases o with
 |Call f Y X p=>
  cases f with
  |Name id q=>
   cases Y with
   |nil=>
    cases X with
    |nil=>have h:(id !="super")=true:=h;exact if_pos (by rw[h];rfl)
    |cons=>rfl
   |cons=>rfl
  |_=>rfl
 |_=>rfl
theorem Bg(p)(u)(X Y)(a b):compareChain p u [X,Y] [a,b]=(do let Z<-holding [u] a;standAt p;let c<-holding [u,Z] (compareOp X u Z);release [u,Z] [c];if<-holding [c,Z] (truthy c)then compareChain p Z [Y] [b]else pure c):=rfl
theorem Bh(p)(u)(X Y)(a b):testChain p u [X,Y] [a,b]=(do let Z<-holding [u] a;standAt p;let c<-holding [u,Z] (compareOp X u Z);release [u,Z] [c];if<-holding [c,Z] (truthy c)then testChain p Z [Y] [b]else pure false):=rfl
theorem vd{c k p v}(h:qW c=some v):bu B W F (.Constant c k p) (.k v):=by intro A U K E J Z k;exact AW h k
theorem Bi{al}(X:bT F)(V:ey B al F){x p i}(hd0:mG x=true)(h:cF x al.names 0=some i):bu B W F (.Name x p) (.x i):=by intro A U K E J S k;refine Z (eval_Name _ _ _<|by simpa[mG]using hd0)<|(V.slot x i h).elim fun aJ Y=>?_;refine G.bind<|G.standAt ?_;refine(t6 k).elim fun v T k=>?_;exact aW Y.2<|s_load X Y.1 T k
theorem ve{al}(bf:dl B)(X:bT F)(V:ey B al F){x p v}(hd0:mG x=true)(h:mF al x=true)(T:al.glob x=some v):bu B W F (.Name x p) (.k v):=by intro A U K E J S k;refine Z (eval_Name _ _ _<|by simpa[mG]using hd0) ?_;have Y:=V.glob x v h T;exact G.bind<|G.standAt<|AV bf X Y.1 Y.2 k
theorem Bj{t x y p a b c}(X:ST B W F t a)(V:bu B W F x b)(T:bu B W F y c):bu B W F (.IfExp t x y p) (.aB a b c):=by intro A U K E J Z k;refine G.bind<|(X Z k).post fun t S Y=>?_;cases t;exact T Z Y;exact V Z Y
theorem Bk{t x y p a b c}(X:ST B W F t a)(V:ST B W F x b)(T:ST B W F y c):ST B W F (.IfExp t x y p) (.aB a b c):=by intro A U K E J Z k;refine G.bind<|(X Z k).post fun t S Y=>?_;cases t;exact T Z Y;exact V Z Y
theorem Bl(bf:dl B){l x y T Y p a b c}(N:behindInMarks Y y=false)(M:bu B W F l a)(L:bu B W F x b)(I:bu B W F y c):bu B W F (.Compare l [T,Y] [x,y] p) (.fq T Y a b c):=by intro A U K E J X k;show G B F A (do compareChain p (<-eval l F.env) [T,Y] [eval x F.env,markedBehindIn Y y<|eval y F.env]) _ E J;refine Z (markedBehindIn_of_false N)<|G.bind ((M X k).post fun u q H=>?_);rw[Bg];refine G.bind<|G.holding<|(L X H).post fun v o D=>?_;refine G.bind<|G.standAt<|G.bind<|G.holding<|(k1 bf X D).post fun w P h=>?_;obtain⟨t,S,V⟩:=h;have:=kY S;subst this;refine G.bind<|G.release<|G.bind<|G.holding<|G.bool (fun s R Q j C=>wpAny_truthy_bool<|C _) ?_;cases t;exact G.pure V;show G B F A (do let O<-holding [v] (eval y F.env);standAt p;operate [v,O] (compareOp Y v O)) _ E P;refine G.bind<|G.holding<|(I X V).post fun z n r=>?_;refine G.bind<|G.standAt<|G.operate<|(k1 bf X r).post fun v m h=>?_;obtain⟨b,S,V⟩:=h;exact Z S V
theorem Bm(bf:dl B){l x y T Y p a b c}(M:behindInMarks Y y=false)(L:bu B W F l a)(I:bu B W F x b)(H:bu B W F y c):ST B W F (.Compare l [T,Y] [x,y] p) (.fq T Y a b c):=by intro A U K E J X k;show G B F A (do testChain p (<-eval l F.env) [T,Y] [eval x F.env,markedBehindIn Y y<|eval y F.env]) _ E J;refine Z (markedBehindIn_of_false M)<|G.bind ((L X k).post fun u o D=>?_);rw[Bh];refine G.bind<|G.holding<|(I X D).post fun v n C=>?_;refine G.bind<|G.standAt<|G.bind<|G.holding<|(k1 bf X C).post fun w O h=>?_;obtain⟨t,S,V⟩:=h;have:=kY S;subst this;refine G.bind<|G.release<|G.bind<|G.holding<|G.bool (fun s R Q r P=>wpAny_truthy_bool<|P _) ?_;cases t;exact G.pure V;show G B F A (do let N<-holding [v] (eval y F.env);standAt p;let c<-operate [v,N] (compareOp Y v N);holding [c] (truthy c)) _ E O;refine G.bind<|G.holding<|(H X V).post fun z m q=>?_;refine G.bind<|G.standAt<|G.bind<|G.operate<|(k1 bf X q).post fun v j h=>?_;obtain⟨b,S,V⟩:=h;have:=kY S;subst this;exact G.holding<|G.bool (fun s R Q r P=>wpAny_truthy_bool<|P _) V
theorem Bn(B)(id):j5 B (.builtin id):=⟨.machine,fun O O O O O q=>wpAny_pure q⟩
theorem vf{f p env}:∀{es:List Expr}{Z:List a6},cu (es.map f)=some Z->(∀e m,f e=some m->∀x p,e≠.Starred x p)->(backTo p<|starEach es env).any (·.1)=false/\(backTo p<|starEach es env).all (fun x=>!x.1)=true:=by
 intro es;induction es with
 |nil=>intro O O O;exact⟨rfl,rfl⟩
 |cons e es ab=>
  intro Z h Y;obtain⟨m,T,rfl,V,U⟩:=fS h;have X:=Y e m V;have W:starEach (e::es) env=(false,eval e env)::starEach es env:=by cases e<;>first|rfl|exact absurd rfl<|X _ _
  obtain⟨a,b⟩:=ab U Y;rw[W];constructor;exact a;exact b
theorem vg{J Z:St}(h:Z.l=J.l):{J with h:=Z.h}=Z:=by cases Z;cases h;rfl
theorem vh(V:f9 B W n)(T:bT F)(S:B.h₀.objs.size<=F.L)(R:F.ups.length+1=n)(Q:b1 F A U 8){Z ad K}(k:W.call U (toV Z) (bo ad) (fun v h=>K v {J with h}) (fun e h=>E e {J with h}) J.h):j5 B Z/\cX B F A (call Z ad) K E J:=by have Y:=V.call T S R Q k;refine⟨Y.1,Y.2.mono (fun v X h=>?_) fun a X h=>?_⟩;have:=h.2;rw[vg h.1]at this;exact this;have:=h.2;rw[vg h.1]at this;exact this
theorem vi{Z Y p V T f}(P:f9 B W n)(O:bT F)(N:B.h₀.objs.size<=F.L)(M:F.ups.length+1=n)(S:eval (.Call Z Y [] p) F.env=(do callWith p (<-eval Z F.env) [] (backTo p<|starEach Y F.env) []))(h:bu B W F Z V)(R:cu (Y.map f)=some T)(Q:∀e m,f e=some m->bu B W F e m/\∀x p,e≠.Starred x p):bu B W F (.Call Z Y [] p) (.bW V T):=by intro A U K E J X k;rw[S];refine G.bind<|(h X k).post fun z D I=>?_;exact u8 (vf R fun e m h=>(Q e m h).2).1<|(oK X R Q I).post fun ad C H=>vh P O N M (X.mono<|qy 0xa0860218100) H.2
theorem Bo(a b):bo (a++b)=bo a++bo b:=map_append
theorem Bp{o name ap Z p Q P f}(bf:dl B)(O:f9 B W n)(y:bT F)(w:B.h₀.objs.size<=F.L)(v:F.ups.length+1=n)(u:mH o=true)(t:(ap.endLine==p.line)=true)(X:Z.length<=20)(h:bu B W F o Q)(N:cu (Z.map f)=some P)(M:∀e m,f e=some m->bu B W F e m/\∀x p,e≠.Starred x p):
  bu B W F (.Call (.Attribute o name ap) Z [] p) (.aZ Q (i6 name) P):=by
 intro A U K E J V k;rw[arm_eval_Call,vc u];refine G.bind<|(h V k).post fun I H s=>G.bind<|G.standAt ?_;obtain⟨D,C⟩:=vf (p:=p) (env:=F.env) N fun e m h=>(M e m h).2;have T:methodCallForm (Z.length+([]:List Keyword).length) (backTo p (starEach Z F.env)) (backToKw p (keywordEach [] F.env))=true:=by unfold methodCallForm;rw[C];show(true&&true&&decide (Z.length+0+0<30))=true;simp;exact iX X rfl
 have S:methodCallPos true o F.env ap p=pure p:=by unfold methodCallPos;simp[t]
 show G B F A (methodCall o name ap p F.env I (Z.length+([]:List Keyword).length) (backTo p<|starEach Z F.env)<|backToKw p<|keywordEach [] F.env) _ E H;unfold methodCall calleeOf;rw[T];refine G.bind<|G.holding<|(A4 O s).post fun r j q=>?_;obtain⟨rfl,c,l,z⟩:=q;obtain⟨R,first⟩:=r;dsimp only;rw[S];refine G.bind<|G.pure ?_;refine u8 D<|(oK V N M l).post fun ad i Y=>?_;obtain⟨_,Y⟩:=Y;cases c with
 |bi=>
  obtain⟨rfl,rfl⟩:R=.builtin (i6 name).id/\first=[I]:=by have:=(show(R,first)=_ from z);exact⟨bn Prod.fst this,bn Prod.snd this⟩
  exact⟨Bn B _,AN bf Y⟩
 |fn f self=>obtain⟨rfl,rfl⟩:=(show toV R=f/\bo first=self from z);refine vh O y w v (V.mono<|qy 0xa0860218100) ?_;rw[Bo];exact Y
theorem Bq{o name p Z}(Y:f9 B W n)(X:mH o=true)(h:bu B W F o Z):bu B W F (.Attribute o name p) (.ce Z name.cps.toList):=by intro A U K E J V k;rw[arm_eval_Attribute,vc X];refine G.bind<|(h V k).post fun O Q T=>G.bind<|G.standAt ?_;have:=u6 (F:=F) (A:=A) (E:=E) (e:=true) Y T;refine G.bind<|G.holding<|this.post fun v P S=>G.bind ?_;exact⟨fun s R=>wpAny_letTemporaryGo ⟨_,R,G.pure S⟩⟩
theorem Br{v i p Y X}(bf:dl B)(T:f9 B W n)(S:∀o Z,subscripted i false o Z=operate [o,Z] (getItem o Z))(R:bu B W F v Y)(aj:bu B W F i X):bu B W F (.Subscript v i p) (.aE Y X):=by intro A U K E J V k;refine G.bind<|(R V k).post fun o O Q=>?_;refine G.bind<|G.holding<|(aj V Q).post fun Z N P=>G.bind<|G.standAt ?_;exact AG bf T.ax (S _ _) P
theorem Bs{lo aj p}(o i):subscripted (.Slice lo aj none p) false o i=operate [i,o] (getItem o i):=by cases lo<;>cases aj<;>rfl
def mL(B:bY)(W:bS)(F:bM)(e:Option Expr)(m:a6):Prop:=∀{A:Around}{U:Option Nat}{K:fM}{E:KE}{J:St},b1 F A U 10->wE W U m K E J->cX B F A (valueOrNone<|evalOpt e F.env) K E J
theorem Bt:mL B W F none (.k .a5):=by intro A U K E J Z k;exact G.pure k
theorem Bu{e m}(h:bu B W F e m):mL B W F (some e) m:=by intro A U K E J Z k;exact h Z k
theorem Bv{v lo aj p q Y X V}(S:bu B W F v Y)(Q:mL B W F lo X)(P:mL B W F aj V):bu B W F (.Subscript v (.Slice lo aj none q) p) (.aJ Y X V):=by
 intro A U K E J Z k;refine⟨fun s R=>Subscript_<|wpAny_mono ((S Z k).run s R) (fun o s1 N=>N.elim fun z M L=>?_) fun O O x=>x⟩;have ep:∀x:Option Expr,evalPart x F.env=valueOrNone (evalOpt x F.env):=fun x=>by cases x<;>rfl
 refine wpAny_Slice<|wpAny_mono ((Q Z L).run s1 M) (fun u s2 I=>I.elim fun y H G=>?_) fun O O x=>x;refine wpAny_mono ((P Z G).run s2 H) (fun t s3 T=>T.elim fun w D C=>?_) fun O O x=>x;exact wpAny_pure<|Bf C (fun a=>Bs _ _) D
theorem Bw{es V p Y f}(Z:es.length<=20)(T:cu (es.map f)=some Y)(S:∀e m,f e=some m->bu B W F e m/\∀x p,e≠.Starred x p):bu B W F (.Tuple es V p) (.an Y):=by intro A U K E J R k;show G B F A (do standAt p;newTuple (<-spliced (backTo p<|starEach es F.env))) _ E J;refine G.bind<|G.standAt<|G.bind<|(oK R T S k).post fun ad Q X=>?_;exact Av ((az 0x8812a0520204200000064888102) Z X.1) X.2
theorem Bx{es p Y f}(Z:es.length<=20)(V:cu (es.map f)=some Y)(T:∀e m,f e=some m->bu B W F e m/\∀x p,e≠.Starred x p):bu B W F (.List es p) (.ag Y):=by intro A U K E J S k;show G B F A (do standAt p;newList (<-spliced (backTo p<|starEach es F.env))) _ E J;refine G.bind<|G.standAt<|G.bind<|(oK S V T k).post fun ad R X=>?_;exact Au ((az 0x8812a0520204200000064888102) Z X.1) X.2
theorem q8{K}[DecidableEq K]{prog w}(knd:KeyKind prog w K):({cls:=.type "dict",data:=.dict #[]}:Obj).IsDictOf knd []:=
 ⟨#[],0,⟨rfl,rfl,rfl⟩,rfl,fun O Z=>by simp at Z,Pairs.nil,nodup_nil⟩
theorem vj{K}[DecidableEq K]{prog w}(knd:KeyKind prog w K):gu knd {cls:=.type "dict",data:=.dict #[]} [] 0:=
 ⟨#[],⟨rfl,rfl,rfl⟩,rfl,fun O Z=>by simp at Z,Pairs.nil,nodup_nil⟩
theorem By{l:List aa}(aC:l.Nodup):(l.map aX).Nodup:=by unfold List.Nodup at*;rw[pairwise_map];exact aC.imp fun h e=>h<|uj e
theorem vk{k x}(h:oH k=some x):cP fun s a p=>k=some (.Constant (.str s) a p)/\x=s.cps.toList:=by
 cases k with
 |none=>exact no h
 |some e=>
 cases e with
 |Constant c a p=>
  cases c with
  |str s=>exact⟨s,a,p,rfl,(a2 h).symm⟩
  |_=>exact no h
 |_=>exact no h
theorem Bz{f p}:∀{ac:List (Option Expr)}{ad:List Expr}{aI:List aa}{X:List a6}{A:Around}{U:Option Nat}{K:ot}{E:KE}{J:St},b1 F A U 10->cu (ac.map oH)=some aI->cu (ad.map f)=some X->ac.length=ad.length->(∀e m,f e=some m->bu B W F e m)->
  wEs W U X K E J->G B F A (evalPairs<|pairTrees ac ad F.env p) (fun T J=>allStrKeys T=true/\(strPairs T).map (·.1)=aI.map aX/\∃us,ee (strPairs T)=aI.zip us/\K us J) E J:=by
 intro ac;induction ac with
 |nil=>
  intro ad aI X A U K E J;intro V Q P M O k;cases ad with
  |cons=>trivial
  |nil=>
  obtain rfl:=a2 Q;cases P;exact⟨fun s R=>pairTrees_nil_walk ⟨J,R,rfl,rfl,[],rfl,k⟩⟩
 |cons b ac ab=>
  intro ad aI X A U K E J;intro V Q P M L k;cases ad with
  |nil=>trivial
  |cons v ad=>
  refine(fS Q).elim fun x h Z=>?_;obtain rfl:=Z.1;refine(fS P).elim fun m g Y=>?_;obtain rfl:=Y.1;obtain⟨t,a,q,rfl,rfl⟩:=vk Z.2;refine⟨fun s R=>pairTrees_cons_walk ?_⟩;have C:cX B F A (eval (.Constant (.str t) a q) F.env) (fun x I=>x=.S t.cps.toList/\I=J) E J:=(vd (W:=W) (v:=.S t.cps.toList) rfl) V ⟨rfl,rfl⟩;refine wpAny_mono (C.run s R) (fun kv s1 z=>z.elim fun d y z=>And.elim (fun u o=>?_) z) fun O O x=>x;subst o;refine(cN u).elim fun ea N=>?_;obtain rfl:=N;refine wpAny_mono ((L _ _ Y.2 V k).run s1 y) (fun H s2 n=>n.elim fun c l j=>?_) fun O O x=>x;refine wpAny_mono ((ab V Z.3 Y.3 (Nat.succ.inj M) L j).run s2 l) (fun r s3 z=>z.elim fun D i z=>z.2.2.elim fun us w=>?_) fun O O x=>x;refine⟨D,i,z.1,a4 z.2.1,toV H::us,?_,w.2⟩;show((aX t.cps.toList).cps.toList,toV H)::ee (strPairs r)=_;rw[w.1,j3];rfl
theorem BA{ac ad p aI M f}(v:ac≠[])(S:ad.length<=15)(Q:ac.length=ad.length)(L:cu (ac.map oH)=some aI)(aC:aI.Nodup)(u:cu (ad.map f)=some M)(t:∀a o e m,f e=some m->bu B W (F.guard a o) e m):bu B W F (.Dict ac ad p) (.av aI M):=by
 intro A U K E J n k;have P:ac.all (·.isSome)=true:=by rw[List.all_eq_true];intro x l;refine(List.getElem?_of_mem l).elim fun i aj=>?_;refine((oJ L).2 i x aj).elim fun y I=>?_;obtain⟨s,a,p,rfl,_⟩:=vk I.1;rfl
 refine⟨fun s R=>wpAny_Dict_walk (knd:=strKind B.prog B.w) P Q v ((az 0x2204bc2101021e10888102) S Q) ?_⟩;refine R.elim fun st m H r j=>?_;have g:=r.ga (pre:=cellsOf F.slots H) (post:=F.prot) {cls:=.type "dict",data:=.dict #[]} (aU) rfl;have bC:aS B (F.guard s.heap.objs.size {cls:=.type "dict",data:=.dict #[]}) J {s with heap:=s.heap.push {cls:=.type "dict",data:=.dict #[]}}:=⟨st,m,H,g,j⟩;refine wpAny_mono ((Bz (F:=F.guard s.heap.objs.size {cls:=.type "dict",data:=.dict #[]}) (p:=p) (n.guard _ _) L u Q (t _ _) k).run _ bC) (fun ps s1 z=>z.elim fun V d z=>And.elim (fun c z=>And.elim (fun g2 z=>z.elim fun us w=>And.elim (fun g3 k1=>?_) w) z) z) fun O O x=>x.k5;refine d.elim fun G m1 T N f1=>?_;have X:s1.heap.DictOf (strKind B.prog B.w) s.heap.objs.size []:=by have:=(N.pr (s.heap.objs.size,{cls:=.type "dict",data:=.dict #[]}) cw).1;refine Heap.dictOf_iff.mpr ⟨_,this,?_⟩;exact q8 _
 refine display_done_str c ?_ X fun h' D C=>?_;exact Z g2<|By aC;refine(Heap.dictOf_iff.mp D).elim fun o' Y=>?_;have rg:=Rel.guard (pre:=cellsOf F.slots T) (post:=F.prot) N (fun b x hb e=>(C.2 b hb).trans e) (Nat.le_of_eq C.1.symm) Y.1 (by obtain⟨_,_,⟨q,_⟩,_⟩:=Y.2;exact Z q<|aU);obtain⟨ep,i2⟩:=gu.ex Y.2;have ra:=rg.adopt (ao:=.av (aI.zip us) ep) r.size ⟨_,i2,g3⟩;exact⟨{V with h:=V.h.set s.heap.objs.size (.av (aI.zip us) ep)},⟨G,m1,T,ra,f1⟩,k1 _ _ (N.pr (s.heap.objs.size,{cls:=.type "dict",data:=.dict #[]}) cw).2.2.1⟩
theorem BB{p}:bu B W F (.Dict [] [] p) (.av [] []):=by intro A U K E J Y k;exact G.new (ao:=.av [] 0) (fun s R Q X Z=>wpAny_Dict_empty<|Z _ _ ⟨[],vj _,rfl⟩)<|k 0
theorem BC{p}:bu B W F (.Dict [] [] p) .gk:=by intro A U K E J Y k;exact G.new (ao:=.b2 [] 0) (fun s R Q X Z=>wpAny_Dict_empty<|Z _ _ ⟨[],vj _,rfl⟩)<|k 0
variable{N:Nat}
theorem BD(bf:dl B){e m}(h:bu B W F e m)(Y:∀Z,isTrue e F.env Z=(do let v<-Z;standAt e.pos;holding [v] (truthy v)))(X:∀(U:Option Nat)(K:KB)(E:KE)(J:St),wT W U m K E J->wE W U m (fun v J=>fN v K J) E J):ST B W F e m:=by intro A U K E J V k;rw[Y];exact G.bind<|(h V<|X _ _ _ _ k).post fun v S T=>G.bind<|G.standAt<|G.holding<|oC bf T
structure d0(B:bY)(W:bS)(N:Nat)(al:c2)(F:bM):Prop where
 b:dl B
 w:f9 B W N
 f:bT F
 n:F.ups.length+1=N
 c:ey B al F
 r:al.glob (Str.ofString "Raised")=some (.Y W.raised)
 mM:i3 B W.raised
 lo:B.h₀.objs.size<=F.L
 inner:f9 B W.down (N+1)
 short:N<=92
 gl:∀y v,al.glob y=some v->k3 B y v
theorem d0.guard{al}(x:d0 B W N al F)(a)(o):d0 B W N al (F.guard a o):=⟨x.b,x.w,x.f.guard a o,x.n,x.c.guard a o,x.r,x.mM,x.lo,x.inner,x.short,x.gl⟩
def hS(B:bY)(W:bS)(F:bM)(e:Expr)(m:a6):Prop:=bu B W F e m/\ST B W F e m
theorem BE{al n e m}(h:cp al n e=some m)(x)(p):e≠.Starred x p:=by intro q;subst q;cases n<;>exact no h
theorem BF{e s}(h:oI e=some s):∃p,e=.Slice s.1 s.2.1 s.2.2 p:=by
 cases e<;>first|exact no h|skip
 obtain rfl:=a2 h;exact⟨_,rfl⟩
theorem BG{e}(h:oI e=none):∀o Z,subscripted e false o Z=operate [o,Z] (getItem o Z):=fun o Z=>by cases e<;>first|rfl|trivial
theorem q9{f k Z}:Ok (i7 f k Z) fun Y=>Z.length<=k/\cu (Z.map f)=some Y:=
 .bJ fun q O h=>⟨aU q,h⟩
def BH(B:bY)(W:bS)(N:Nat)(al:c2)(f:Expr->Option a6):Prop:=∀{F:bM},d0 B W N al F->∀e,Ok (f e)<|hS B W F e
section
variable{al:c2}{f:Expr->Option a6}(ab:BH B W N al f)(aI:∀e m,f e=some m->∀x p,e≠.Starred x p)(x:d0 B W N al F)
include x
theorem fu{e m}(Y:bu B W F e m)(X:∀Z,isTrue e F.env Z=(do let v<-Z;standAt e.pos;holding [v] (truthy v)))(V:∀(U:Option Nat)(K:KB)(E:KE)(J:St),wT W U m K E J->wE W U m (fun v J=>fN v K J) E J):hS B W F e m:=⟨Y,BD x.b Y X V⟩
theorem BI{y p}:Ok (uJ al y) (hS B W F<|.Name y p):=
 .bJ fun bx=>.cY (fun O=>.bJ fun q=>.map fun O Z=>fu x (ve x.b x.f x.c bx q Z) (fun O=>rfl) fun O O O O k=>k) fun O q=>.some<|fu x (Bi x.f x.c bx q) (fun O=>rfl) fun O O O O k=>k
include ab
theorem BJ{e p Z}:Ok (uK f e Z) (hS B W F<|.UnaryOp Z e p):=by
 cases Z with
 |Not=>exact .map fun O h=>⟨A6 x.b (ab x _ _ h).1,A7 (ab x _ _ h).2⟩
 |USub=>exact .map fun O h=>fu x (A8 (ab x _ _ h).1) (fun O=>rfl) fun O O O O k=>k.elim
 |_=>exact .none
theorem BK{l Z V p}:Ok (uL f l Z V) (hS B W F<|.Compare l Z V p):=by
 cases Z with
 |nil=>exact .none
 |cons Q Z=>
 cases V with
 |nil=>exact .none
 |cons r V=>
 refine .cY (fun O=>.nil fun U=>.nil fun T=>.bJ fun q=>.bind fun a Y=>.map fun b X=>?_) fun R bx=>.one fun O U=>.one fun P T=>.bJ fun q=>.bind fun a Y=>.bind fun b X=>.map fun c S=>?_;subst U T;have q:=Bool.not_eq_true' _|>.mp q;exact⟨Bb x.b q (ab x _ _ Y).1 (ab x _ _ X).1,Bc x.b q (ab x _ _ Y).1 (ab x _ _ X).1⟩;subst U T;obtain rfl:=a2 bx;have q:=Bool.not_eq_true' _|>.mp q;exact⟨Bl x.b q (ab x _ _ Y).1 (ab x _ _ X).1 (ab x _ _ S).1,Bm x.b q (ab x _ _ Y).1 (ab x _ _ X).1 (ab x _ _ S).1⟩
theorem vl{o}:Ok (qX f o) (mL B W F o):=by
 cases o with
 |none=>exact .some Bt
 |some e=>exact fun O h=>Bu (ab x _ _ h).1
theorem BL{v i p}:Ok (uN f v i) (hS B W F<|.Subscript v i p):=
 .bind fun O X=>.cY (fun q=>.map fun O Y=>fu x (Br x.b x.w (BG q) (ab x _ _ X).1 (ab x _ _ Y).1) (fun O=>rfl) fun O O O O k=>k) fun s q=>.cY (fun V=>.bind fun O Y=>.map fun O U=>by obtain⟨_,rfl⟩:=BF q;exact Z V<|fu x (Bv (ab x _ _ X).1 (vl ab x _ Y)<|vl ab x _ U) (fun O=>rfl) fun O O O O k=>k) fun O O=>.none
theorem BM{ac ad p}:Ok (uO al f ad ac) (hS B W F<|.Dict ac ad p):=by
 cases ac with
 |nil=>refine .nil fun q=>.some ?_;split;exact fu x BC (fun O=>rfl) fun O O O O k=>k.elim;exact fu x BB (fun O=>rfl) fun O O O O k=>k.elim
 |cons k ac=>exact .bJ fun Z=>.bind fun aI Y=>.bJ fun aC=>.map fun b X=>have z:=q9 _ X;fu x (BA (cons_ne_nil _ _) z.1 (aU Z) Y (aU aC) z.2 fun a o e m h=>(ab (x.guard a o) _ _ h).1) (fun O=>rfl) (fun O O O O k=>k.elim)
include aI
theorem mN{k Z}:Ok (i7 f k Z) fun Y=>Z.length<=k/\cu (Z.map f)=some Y/\∀e m,f e=some m->bu B W F e m/\∀x p,e≠.Starred x p:=
 fun O h=>⟨(q9 _ h).1,(q9 _ h).2,fun O O h=>⟨(ab x _ _ h).1,aI _ _ h⟩⟩
theorem BN{Z p fn}:Ok (uM f Z p fn) (hS B W F<|.Call fn Z [] p):=by
 cases fn with
 |Attribute o name ap=>exact .bJ fun V=>.bJ fun U=>.bind fun O Y=>.map fun O X=>fu x (have z:=mN ab aI x _ X;Bp x.b x.w x.f x.lo x.n V U z.1 (ab x _ _ Y).1 z.2.1 z.2.2) (fun O=>rfl) fun O O O O k=>k
 |Name y q=>exact .bind fun O Y=>.map fun O X=>fu x (have z:=mN ab aI x _ X;vi x.w x.f x.lo x.n rfl (ab x _ _ Y).1 z.2.1 z.2.2) (fun O=>rfl) fun O O O O k=>k
 |Subscript y z q=>exact .bind fun O Y=>.map fun O X=>fu x (have z:=mN ab aI x _ X;vi x.w x.f x.lo x.n rfl (ab x _ _ Y).1 z.2.1 z.2.2) (fun O=>rfl) fun O O O O k=>k
 |_=>exact .none
theorem BO(e):Ok (uP al f e) (hS B W F e):=by
 cases e with
 |Constant c k p=>exact .map fun O q=>fu x (vd q) (fun O=>rfl) fun O O O O k=>k
 |Name y p=>exact BI x
 |BinOp l V r p=>exact .bind fun O Z=>.map fun O Y=>fu x (A5 (ab x _ _ Z).1 (ab x _ _ Y).1) (fun O=>rfl) fun O O O O k=>k
 |UnaryOp V Q p=>exact BJ ab x
 |BoolOp V ad p=>exact .bind fun O Z=>.bJ fun O O h=>⟨fun O O O O O X k=>A9 x.b _ _ Z h (fun e m h=>(ab x _ _ h).1) X k,fun O O O O O X k=>Ba _ Z h (fun e m h=>(ab x _ _ h).2) X k⟩
 |Compare l S P p=>exact BK ab x
 |IfExp t a b p=>exact .bind fun O Z=>.bind fun O Y=>.map fun O U=>⟨Bj (ab x _ _ Z).2 (ab x _ _ Y).1 (ab x _ _ U).1,Bk (ab x _ _ Z).2 (ab x _ _ Y).2 (ab x _ _ U).2⟩
 |Call fn T R p=>exact .nil fun q=>by subst q;exact BN ab aI x
 |Attribute v name p=>exact .bJ fun q=>.map fun O h=>fu x (Bq x.w q (ab x _ _ h).1) (fun O=>rfl) fun O O O O k=>k
 |Subscript v i p=>exact BL ab x
 |Tuple es k p=>exact .map fun O h=>fu x (have z:=mN ab aI x _ h;Bw z.1 z.2.1 z.2.2) (fun O=>rfl) fun O O O O k=>k.elim
 |List es p=>exact .map fun O h=>fu x (have z:=mN ab aI x _ h;Bx z.1 z.2.1 z.2.2) (fun O=>rfl) fun O O O O k=>k.elim
 |Dict ac ad p=>exact BM ab x
 |_=>exact .none
end
theorem ef{al}:∀(n:Nat){F:bM},d0 B W N al F->∀{e:Expr}{m:a6},cp al n e=some m->hS B W F e m:=by
 intro n;induction n with
 |zero=>intro O O O O h;exact no h
 |succ n ab=>intro O x O O h;exact BO (fun y O O h=>ab y h) (fun O O h=>BE h) x _ _ h
variable{H':Heap}
set_option tactic.hygienic true in
theorem ar.set_same{h:ar}{a ao}(e:h a=some ao):h.set a ao=h:=by funext b;unfold ar.set;split;rename_i q;subst q;exact e.symm;rfl
theorem Rel.slots(R:Rel B ups prot h H)(x:Heap.SlotsOnly (ups.map (·.L)) H H'):Rel B ups prot h H':=by
 have b8:∀T ba V,H.get? T=some ba->ba.cls=.type "traceback"->ba.data=.fields V->3<V.size->bs fun W U=>cQ (H'.get? T=some W) (W.cls=.type "traceback") (W.data=.fields U) (3<U.size):=fun T ba V P O N M=>by refine(x.2.2 T ba P).elim fun aJ e=>?_;exact⟨_,V,e,O,N,M⟩
 have Y:∀b,b∈ups.map (·.L)->B.h₀.get? b=none/\h b=none:=fun b K=>by refine(mem_map.mp K).elim fun u S=>?_;obtain rfl:=S.2;exact(R.fr u S.1).2
 refine⟨by rw[x.1];exact R.size,fun b o e=>?_,fun a ao e=>?_,fun u J=>?_,R.nodup,R.dG,fun p I=>?_⟩;exact Z (x.2.1 b (fun q=>by rw[(Y b q).1]at e;exact no e))<|R.keep b o e;obtain⟨n,o,G,i⟩:=R.objs a ao e;refine⟨n,o,?_,i.on b8⟩;exact(x.2.1 a (fun q=>by rw[(Y a q).2]at e;exact no e)).trans G;have Q:=R.fr u J;obtain⟨o,es,ep,F,r⟩:=Q.1;refine(x.2.2 _ o F).elim fun aJ e=>?_;exact⟨⟨_,es,ep,e,r⟩,Q.2⟩;have X:=R.pr p I;exact⟨(x.2.1 _ X.2.2.2.1).trans X.1,X.2.1,X.2.2.1,X.2.2.2.1,X.2.2.2.2⟩
theorem Rel.b8(R:Rel B ups prot h H){T ba Q}(V:H.get? T=some ba)(K:ba.cls=.type "traceback")(U:ba.data=.fields Q)(E:B.h₀.get? T=none)(x):Rel B ups prot h (H.update T (Obj.mapFields (·.setIfInBounds 3 x))):=by
 have N:=Obj.data_mapFields U (·.setIfInBounds 3 x);have self:=Heap.get?_update_self (Obj.mapFields (·.setIfInBounds 3 x)) V<|Obj.isFreed_of_fields N;have Y:∀b,b≠T->(H.update T (Obj.mapFields (·.setIfInBounds 3 x))).get? b=H.get? b:=fun b D=>Heap.get?_update_ne _ _ _ _ D;have b8:∀P ba Q,H.get? P=some ba->ba.cls=.type "traceback"->ba.data=.fields Q->3<Q.size->bs fun X W=>cQ ((H.update T (Obj.mapFields (·.setIfInBounds 3 x))).get? P=some X) (X.cls=.type "traceback") (X.data=.fields W) (3<W.size):=fun P X W J I G F=>by by_cases q:P=T;subst q;rw[J]at V;obtain rfl:=a2 V;rw[G]at U;(injection U with U;subst U);exact⟨_,_,self,by rw[Obj.cls_mapFields];exact I,N,by simpa using F⟩;exact⟨X,W,(Y _ q).trans J,I,G,F⟩
 refine⟨bp R.size<|Nat.le_of_eq (Heap.size_after_update ..).symm,fun b o e=>?_,fun a ao e=>?_,fun u C=>?_,R.nodup,R.dG,fun p A=>?_⟩;exact Z (Y b (fun q=>by rw[q,E]at e;exact no e))<|R.keep b o e;obtain⟨n,o,M,i⟩:=R.objs a ao e;refine⟨n,o,?_,i.on b8⟩;exact Z (Y a (fun q=>by subst q;rw[V]at M;obtain rfl:=a2 M;exact i.t8 _ U K)) M;refine(R.fr u C).elim fun O y=>?_;obtain⟨o,es,ep,L,S,r⟩:=O;refine⟨⟨o,es,ep,?_,S,r⟩,y⟩;exact Z (Y _ (fun q=>by rw[q,V]at L;obtain rfl:=a2 L;rw[U]at S;cases S)) L;refine(R.pr p A).elim fun y z=>?_;refine⟨?_,z⟩;exact Z (Y _ (fun q=>by rw[q,V]at y;obtain rfl:=a2 y;exact z.2.2.2 K)) y
def j7(B:bY)(H:Heap)(a:Addr):Prop:=gJ fun o ad T ba Z=>hb (H.get? a=some o) (o.data=.fields ad) (ad[1]?=some (.ref T)) (H.get? T=some ba) (ba.cls=.type "traceback") (ba.data=.fields Z) (3<Z.size)<|B.h₀.get? T=none
theorem aS.BP(W:bT F){s}(R:aS B F J s):s.heap.FunFrames B.h₀ F.envs:=by
 refine R.elim fun st m N r f=>?_;have go:∀l:List gs,(∀u∈l,u.act=true->u.env.scope.kind≠.module/\u.env.frame=some u.L)->(∀u∈l,s.heap.Ns u.L u.m/\B.h₀.get? u.L=none)->s.heap.FunFrames B.h₀ (i4 l):=by
  intro l;induction l with
  |nil=>intros;trivial
  |cons u l ab=>
   intro T S;have X:=ab (fun u Y=>T u<|.tail _ Y) fun u Y=>S u<|.tail _ Y;unfold i4;rcases q:u.act with _|_
   .exact Z (filter_cons_of_neg<|by simp[q]) X
   .
    rw[filter_cons_of_pos q,map_cons];have V:=T u (.head _) q;have U:=S u<|.head _;obtain⟨o,es,ep,P,Q,_⟩:=U.1;exact⟨V.1,⟨u.L,o,V.2,U.2,P,fun ad q=>by rw[Q]at q;trivial⟩,X⟩
 rw[<-mv F m];refine go (F.up m) (fun u Y=>?_) fun u Y=>⟨(r.fr u Y).1,(r.fr u Y).2.1⟩;rcases bU Y with q|q
 .subst q;intro O;exact⟨by rw[W.kind];exact aU,aW (W.self O) W.frame⟩
 .exact W.ups u q
theorem BQ(Y:bT F)(m):∀b∈F.envs.filterMap (·.frame),b∈(F.up m).map (·.L):=by
 intro b X;rw[<-mv F m]at X;obtain⟨e,U,W⟩:=mem_filterMap.mp X;obtain⟨u,Z,rfl⟩:=mem_map.mp U;obtain⟨Z,V⟩:=mem_filter.mp Z;have:u.env.frame=some u.L:=by
  rcases bU Z with q|q
  .subst q;exact aW (Y.self V) Y.frame
  .exact(Y.ups u q V).2
 rw[this]at W;obtain rfl:=a2 W;exact List.mem_map_of_mem Z
theorem BR{M A E s X env e r l Q}(W:A.frames=some (e::r))(U:s.heap.FunFrames X (e::r))(V:e.frame=some l)(T:env.frame=some l)(h:∀Y,Heap.SlotsOnly ((e::r).filterMap (·.frame)) s.heap Y->Q (.ref l) {s with heap:=Y}):wpAny M A (PySem.frameOf env) Q E s:=by
 refine wpAny_bind<|wpAny_frameEnvs W ?_;have d:((e::r).dropWhile fun x=>x.frame !=env.frame)=e::r:=by simp[List.dropWhile,V,T]
 rw[d];refine wpAny_bind<|wpAny_bind<|wpAny_readyFrames_fun U fun Y S=>wpAny_pure ?_;exact Z V<|wpAny_pure<|h Y S
theorem aS.exc{s}(R:aS B F J s){a C}(e:isExc J.h a C):gJ fun d c ad aJ b8=>hb (J.h a=some (.bD C d c)) (s.heap.get? a=some ⟨.ref C,some d,.fields ad,aJ⟩) (5<=ad.size) (c.ctx=false->ad[2]?=some .none) (ad[1]?=some b8) (qH B s.heap b8) (i3 B C) (c.b8=true->b8≠.none):=by refine e.elim fun d c e=>?_;refine R.elim fun O m S r O=>?_;obtain⟨_,o,Z,ad,aJ,b8,rfl,Y,X,W,V,U,T⟩:=r.objs _ _ e;exact⟨d,c,ad,aJ,b8,e,Z,Y,X,W,V,U,T⟩
theorem vm(S:bT F)(D:b1 F A U j){a C head b Q z s}(R:aS B F J s)(e:isExc J.h a C)(h:∀N,aS B F J N->j7 B N.heap a->Q () N):
  wpAny (model B.prog B.w) A (do let y<-frameOf F.env;let X<-entryPlaceOf F.fQ b;let x<-EntryCells.newEntry head y .none (rawInt F.fQ) .none X;setField (.ref a) 1 x) Q z s:=by
 refine S.head.elim fun p dE W=>?_;refine wpAny_bind<|BR (D.frames.trans<|bn some W.1) (W.1▸R.BP S) W.2 S.frame fun Z V=>?_;rw[<-W.1]at V;refine wpAny_bind<|wpAny_entryPlaceOf fun X L=>?_;refine wpAny_bind<|wpAny_newObj_type ?_<|L.sizeOk5 _ _ _ _ _;refine R.elim fun st m K r f=>?_;have M:=r.slots<|V.mono<|BQ S m;have v:aS B F J {s with heap:=Z}:=⟨st,m,K,M,f⟩;refine(v.exc e).elim fun d c ad aJ b8 Y=>?_;have u:=M.push {cls:=.type "traceback",dict:=none,data:=.fields ([head,.ref F.fQ,.none,rawInt F.fQ,.none]++(if X.isEmpty then List.replicate 6 Value.none else X)).toArray};have P:=Heap.get?_push_of_some {cls:=.type "traceback",dict:=none,data:=.fields ([head,.ref F.fQ,.none,rawInt F.fQ,.none]++(if X.isEmpty then List.replicate 6 Value.none else X)).toArray} Y.2;refine wpAny_setField P rfl ((aF 0x506604004098111) Y.3) ?_;have I:=(Heap.get?_update_ne (Z.push {cls:=.type "traceback",dict:=none,data:=.fields ([head,.ref F.fQ,.none,rawInt F.fQ,.none]++(if X.isEmpty then List.replicate 6 Value.none else X)).toArray}) Z.objs.size a
  (Obj.mapFields (·.setIfInBounds 1 (Value.ref Z.objs.size))) (Nat.ne_of_gt (Heap.lt_size Y.2):Z.objs.size≠a)).trans (Heap.get?_push_size Z rfl)
 have T:=Heap.get?_update_self (Obj.mapFields (·.setIfInBounds 1 (Value.ref Z.objs.size))) P rfl;have H:3<([head,.ref F.fQ,.none,rawInt F.fQ,.none]++(if X.isEmpty then List.replicate 6 Value.none else X)).toArray.size:=by simp
 have G:B.h₀.get? Z.objs.size=none:=M.qI;have E:=u.same (ao':=.bD C d c) Y.1 (fun b o t q=>(Heap.get?_update_ne _ _ _ _ t).trans q) T
  ⟨_,aJ,.ref Z.objs.size,rfl,by simpa using Y.3,fun q=>by rw[Array.getElem?_setIfInBounds_ne<|by decide];exact Y.4 q,by simp[show 1<ad.size by exact((aF 0x506604004098111) Y.3)],.inr ⟨_,_,_,rfl,I,rfl,rfl,H,G⟩,Y.7,fun O=>by simp⟩
 rw[ar.set_same Y.1]at E;refine h _ ⟨st,m,K,E,f⟩ ⟨_,_,Z.objs.size,_,_,T,rfl,by simp[show 1<ad.size by exact((aF 0x506604004098111) Y.3)],I,rfl,rfl,H,G⟩
theorem j8(O:bT F)(L:b1 F A U j){a C Q K s}(R:aS B F J s)(e:isExc J.h a C)(h:∀N,aS B F J N->j7 B N.heap a->Q () N):wpAny (model B.prog B.w) A (noteFrame (.ref a) F.env) Q K s:=by
 refine(R.exc e).elim fun d c ad aJ b8 Y=>?_;unfold noteFrame;simp only[O.frame];refine wpAny_bind<|wpAny_field Y.2 rfl Y.5 ?_;rcases Y.6 with rfl|⟨T,ba,M,rfl,V,S,X,W,P⟩
 .exact Z (if_neg<|aU)<|vm O L R e h
 .skip;obtain⟨KJ,BS⟩:∃v,M[3]?=some v:=⟨M[3],by simp[W]⟩;refine wpAny_bind<|wpAny_field V X BS ?_;split;exact wpAny_pure<|h s R ⟨_,ad,T,ba,M,Y.2,rfl,Y.5,V,S,X,W,P⟩;refine wpAny_bind<|wpAny_setField V X W ?_;refine R.elim fun st m I r f=>?_;exact vm O L ⟨st,m,I,r.b8 V S X P _,f⟩ e h
theorem iu{a C fr Q I s}(R:aS B F J s)(e:isExc J.h a C)(h:∀P,aS B F J P->(j7 B s.heap a->j7 B P.heap a)->Q () P):wpAny (model B.prog B.w) A (setFlight (.ref a) fr) Q I s:=by
 obtain⟨d,c,ad,aJ,b8,G,N,E,D,L,M,z,y⟩:=R.exc e;refine wpAny_bind<|wpAny_field N rfl L ?_;rcases M with rfl|⟨T,ba,v,rfl,Y,X,W,V,U⟩
 .exact Z (if_neg<|aU)<|wpAny_pure<|h s R fun x=>x
 .skip;refine wpAny_setField Y W V<|R.elim fun st m H r f=>?_;refine h _ ⟨st,m,H,r.b8 Y X W U _,f⟩ fun O=>?_;have S:=Obj.data_mapFields W (·.setIfInBounds 3 (fr.elim .none fun f=>rawInt f));have self:=Heap.get?_update_self (Obj.mapFields (·.setIfInBounds 3 (fr.elim .none fun f=>rawInt f))) Y<|Obj.isFreed_of_fields S;have K:a≠T:=fun q=>by subst q;rw[N]at Y;obtain rfl:=a2 Y;cases X
  exact⟨_,ad,T,_,_,(Heap.get?_update_ne _ _ _ _ K).trans N,rfl,L,self,by rw[Obj.cls_mapFields];exact X,S,by simpa using V,U⟩
theorem vn{a C s}(R:aS B F J s)(e:isExc J.h a C)(t:j7 B s.heap a)(k:E a J):cameBackBy (model B.prog B.w) A F.env (EPost B F E) (.ref a) s:=by refine(id t).elim fun o ad T ba X Y=>?_;refine wpAny_bind<|wpAny_field Y.1 Y.2 Y.3 ?_;exact Z (if_neg<|aU)<|iu R e fun W bC O=>⟨J,a,rfl,bC,⟨C,e⟩,k⟩
set_option backward.match.sparseCases true
theorem Rel.grow(R:Rel B ups prot h H)(k:∀b o,H.get? b=some o->H'.get? b=some o)(X:B.h₀.objs.size<=H'.objs.size):Rel B ups prot h H':=by refine⟨X,fun b o e=>k b o<|R.keep b o e,fun a ao e=>?_,fun u W=>?_,R.nodup,R.dG,fun p V=>?_⟩;obtain⟨n,o,U,i⟩:=R.objs a ao e;exact⟨n,o,k a o U,i.on fun T ba S a b c d=>⟨ba,S,k T ba a,b,c,d⟩⟩;have Z:=R.fr u W;obtain⟨o,es,ep,Q,r⟩:=Z.1;exact⟨⟨o,es,ep,k _ o Q,r⟩,Z.2⟩;have Y:=R.pr p V;exact⟨k _ _ Y.1,Y.2⟩
theorem aS.grow{s}(R:aS B F J s){a:Addr}{ao}(e:J.h a=some ao){Z n}(x:Heap.ExtBut s.heap.objs.size s.heap Z):aS B F J {s with heap:=Z,toks:=n}:=by refine R.elim fun st m Y r f=>?_;have k:∀b o,s.heap.get? b=some o->Z.get? b=some o:=fun b o q=>x b o (ne_of_lt<|Heap.lt_size q) q;obtain⟨X,o,W,_⟩:=r.objs _ _ e;exact⟨st,m,Y,r.grow k (An fun b x q=>k _ _<|r.keep b x q),f⟩
theorem BU{prog w A E X t items}(K:t≠X):∀(n i:Nat)(s:Shared)(Q:List Value->Shared->Prop),s.heap.IsListIter X t i->s.heap.IsList t items->i+n<=items.size->
  (∀N,N.IsListIter X t (i+n)->Heap.SameBut X s.heap N->Q ((items.toList.drop i).take n) {s with heap:=N})->wpAny (model prog w) A (draw (.ref X) n) Q E s:=by
 intro n;induction n with
 |zero=>intro i s Q W O O M;exact wpAny_pure (by simpa using M s.heap W (Heap.SameBut.refl ..))
 |succ n ab=>
  intro i s Q W J R M;have P:i<items.size:=((aT 0x210244200a0408008111) R);refine wpAny_bind (wpAny_pyNext_list_item W J (x:=items[i]) (by simp[P]) fun I V Y=>?_);refine wpAny_bind<|wpAny_holding<|ab (i+1) _ _ V (J.extBut Y.extBut K) ((aT 0x210244200a0408088120128101) R) fun L T S=>wpAny_pure ?_;have U:items.toList.drop i=items[i]::items.toList.drop (i+1):=by simp[drop_eq_getElem_cons,P]
  have:=M L (Z (show i+(n+1)=i+1+n by exact bR (az 0x4409009409108028100)<|az 0x20488401088120128100) T)<|Y.trans S;rw[U,take_succ_cons]at this;exact this
theorem BV{prog w A E s t items Q}(N:A.handled=none)(Y:s.heap.IsList t items)(M:∀R,Heap.ExtBut s.heap.objs.size s.heap R->Q items.toList {s with heap:=R}):wpAny (model prog w) A (unpackItems (.ref t) items.size none) Q E s:=by
 have V:t≠s.heap.objs.size:=by refine Y.elim fun o P=>?_;exact ne_of_lt<|Heap.lt_size P.1
 refine wpAny_bind ?_
 .skip;refine wpAny_bind<|wpAny_specialOf Y.typeIs slot_list_iter.lookup ?_;refine wpAny_pure<|wpAny_bind (wpAny_holding<|wpAny_pyIter_list Y ?_);refine wpAny_bind<|wpAny_holding<|BU V items.size 0 _ _ ⟨_,Heap.get?_push_size _ rfl,rfl,rfl⟩ (Y.push _) (aF 0xa8100) fun U X Z=>?_;have T:List.take items.size (List.drop 0 items.toList)=items.toList:=by exact drop_zero.trans<|take_of_length_le<|Nat.le_refl _
  rw[T];rw[if_neg<|by simp];refine wpAny_bind<|wpAny_holding<|wpAny_pyNext_list_end N X ((Y.push _).extBut Z.extBut V:U.IsList t items) (by simp) fun S W=>?_;refine wpAny_pure<|M S fun b o O e=>W b o O<|Z.extBut b o O<|Heap.get?_push_of_some _ e
theorem vo(X:b1 F A none j){v n P K}(W:hg J.h P (toV v))(V:∀xs,P xs->xs.length=n)(k:∀us,P (bo us)->K us J):G B F A (unpackItems v n none) K E J:=by
 refine⟨fun s R=>?_⟩;generalize U:toV v=u at W;cases W with
 |list Y p=>obtain rfl:=b7 U;refine(R.list Y).elim fun items ep z=>?_;exact aW (V _ p)<|aW (size_of z.2)<|BV X.handled (fc z.1) fun T x=>⟨J,R.grow Y x,k _<|Z z.2 p⟩
 |tup Y p=>obtain rfl:=b7 U;refine(R.tup Y).elim fun items ep z=>?_;exact aW (V _ p)<|aW (size_of z.2)<|wpAny_unpackItems_tuple X.handled (f7 z.1) fun T x=>⟨J,R.grow Y x,k _<|Z z.2 p⟩
theorem ra{aO ad J Z}(h:putAll aO ad J=some Z):aO.length=ad.length:=by
 induction aO generalizing ad J with
 |nil=>cases ad with|nil=>rfl|cons=>exact no h
 |cons i aO ab=>cases ad with|nil=>exact no h|cons=>exact bn Nat.succ<|ab h
theorem BW{J:St}{i k v u}(h:i≠k):(J.put i v).put k u=(J.put k u).put i v:=by simp(iota:=false)only[St.mk.injEq,and_true];exact set_comm _ _ h
theorem BX{aO ad J i v}(h:i∉aO):putAll aO ad (J.put i v)=(putAll aO ad J).map (·.put i v):=by
 induction aO generalizing ad J with
 |nil=>cases ad<;>rfl
 |cons k aO ab=>
  cases ad with
  |nil=>rfl
  |cons u ad=>exact(a4<|BW (fun q=>h (Z q<|.head _):i≠k)).trans<|ab fun q=>h<|.tail _ q
theorem BY{aO ad J i v}(h:aO.length=ad.length):putAll (aO++[i]) (ad++[v]) J=(putAll aO ad J).map (·.put i v):=by
 induction aO generalizing ad J with
 |nil=>
  cases ad with
  |nil=>rfl
  |cons=>trivial
 |cons k aO ab=>
  cases ad with
  |nil=>trivial
  |cons u ad=>exact ab<|Nat.succ.inj h
theorem BZ{aO ad J}(h:aO.length=ad.length)(aC:aO.Nodup):putAll aO.reverse ad.reverse J=putAll aO ad J:=by
 induction aO generalizing ad J with
 |nil=>
  cases ad with
  |nil=>rfl
  |cons=>trivial
 |cons k aO ab=>
  cases ad with
  |nil=>trivial
  |cons u ad=>have Z:=nodup_cons.mp aC;have h:=Nat.succ.inj h;rw[reverse_cons,reverse_cons,BY (by rw[length_reverse,length_reverse];exact h),ab h Z.2];exact(BX Z.1).symm
theorem B0{al}(T:bT F)(S:ey B al F):∀{X:List Expr}{aO:aa}{us:List Value}{J Y:St}{K:St->Prop},cu (X.map<|hQ al)=some aO->putAll aO (bo us) J=some Y->K Y->
  G B F A (assignInOrder ((assignEach X F.env).map (·.2)) us) (fun O J=>K J) E J:=by
 intro X;induction X with
 |nil=>
  intro aO us J Y K h W k;obtain rfl:=a2 h;cases us with
  |nil=>obtain rfl:=a2 W;exact G.pure k
  |cons u us=>exact no W
 |cons t X ab=>
  intro aO us J Y K h W k;refine(fS h).elim fun i R Z=>?_;obtain rfl:=Z.1;cases us with
  |nil=>exact no W
  |cons u us=>refine(uQ Z.2).elim fun x p U=>?_;obtain rfl:=U.1;refine(S.slot x i Z.2).elim fun aJ V=>?_;show G B F A (do holding us (do standAt p;bindName F.env x u);assignInOrder ((assignEach X F.env).map (·.2)) us) _ E J;refine G.bind<|G.holding<|G.bind<|G.standAt ?_;exact aW V.2<|i5 T V.1<|ab Z.3 W k
set_option backward.match.sparseCases false
inductive gb:Flow->oA->Prop where
 |next:gb .next .bL
 |brk:gb .brk .dx
 |ret {v:Value}:gb (.ret v) (.ay (toV v))
abbrev fv(B:bY)(F:bM)(A:Around)(t:Sem Flow)(K:c7)(E:KE)(J:St):Prop:=G B F A t (fun f J=>dk (fun Z=>gb f Z) fun Z=>K Z J) E J
def dc(B:bY)(W:bS)(F:bM)(j:Nat)(st:Stmt)(m:cj):Prop:=∀⦃A:Around⦄⦃U:Option Nat⦄⦃K:c7⦄⦃E:KE⦄⦃J:St⦄,b1 F A U (10+j)->wS W U m K E J->fv B F A (exec st F.env) K E J
def fw(B:bY)(W:bS)(F:bM)(j:Nat)(st:List Stmt)(m:List cj):Prop:=∀⦃A:Around⦄⦃U:Option Nat⦄⦃K:c7⦄⦃E:KE⦄⦃J:St⦄,b1 F A U (10+j)->wSs W U m K E J->fv B F A (execs st F.env) K E J
theorem fv.next{K}(k:K .bL J):fv B F A (pure .next) K E J:=G.pure ⟨.bL,.next,k⟩
theorem vp{e}(h:hR e=false)(t)(l)(env):swapsWith e t l env=pure false:=by cases e<;>first|rfl|cases(show true=false from h)
theorem B1(X:bT F){e p m}(V:hR e=false)(h:bu B W F e m):dc B W F j (.Expr e p) (.bF m):=by intro A U K E J T k;show G B F A (do standAt p;if interactive F.env then printExpr (eval e F.env)else if<-swapsWith e none p.line F.env then do evalThenUse e F.env fun O=>point;pure .next else do dropValue e p (<-eval e F.env)) _ E J;rw[vp V,show interactive F.env=false by unfold interactive;exact Z X.kind rfl];refine G.bind<|G.standAt<|G.bind<|G.pure ?_;refine G.bind<|(h (T.mono<|aF eS) k).post fun v Y S=>?_;exact⟨fun s R=>wpAny_dropValue ⟨Y,R,.bL,.next,S⟩⟩
theorem B2{p}:dc B W F j (.Pass p) .pass:=by intro A U K E J Z k;exact G.bind<|G.standAt<|fv.next k
theorem B3{p}:dc B W F j (.Break p) .brk:=by intro A U K E J Z k;exact G.bind<|G.standAt<|G.pure ⟨.dx,.brk,k⟩
theorem B4{e p m}(h:bu B W F e m):dc B W F j (.Return (some e) p) (.ay m):=by intro A U K E J Z k;show G B F A (do standAt p;let v<-eval e F.env;pure (Flow.ret v)) _ E J;refine G.bind<|G.standAt<|G.bind<|(h (Z.mono<|aF eS) k).post fun v X Y=>G.pure ⟨.ay<|toV v,.ret,Y⟩
theorem B5{p}:dc B W F j (.Return none p) (.ay<|.k .a5):=by intro A U K E J Z k;exact G.bind<|G.standAt<|G.pure ⟨.ay .a5,.ret,k⟩
theorem B6{t b o p m Y os}(V:ST B W F t m)(T:fw B W F j b Y)(S:fw B W F j o os):dc B W F j (.If t b o p) (.aB m Y os):=by intro A U K E J Z k;refine G.bind<|G.standAt<|G.bind<|(V (Z.mono<|aF eS) k).post fun c R X=>?_;cases c;exact S Z X;exact T Z X
theorem B7:fw B W F j [] []:=by intro A U K E J Z k;exact fv.next k
theorem B8{s r m Y}(h:dc B W F j s m)(V:fw B W F j r Y):fw B W F j (s::r) (m::Y):=by intro A U K E J X k;refine G.bind<|(h X k).post fun f S Z=>?_;obtain⟨R,T,Z⟩:=Z;cases T;exact V X Z;exact G.pure ⟨.dx,.brk,Z⟩;exact G.pure ⟨.ay _,.ret,Z⟩
theorem vq{f}:∀{b:List Stmt}{Y:List cj},cu (b.map f)=some Y->(∀s m,f s=some m->dc B W F j s m)->fw B W F j b Y:=by
 intro b;induction b with
 |nil=>intro O h O;obtain rfl:=a2 h;exact B7
 |cons s r ab=>intro O h X;refine(fS h).elim fun m V Z=>?_;obtain rfl:=Z.1;exact B8 (X _ _ Z.2)<|ab Z.3 X
theorem oP{t e p env}(Y:hR e=false):exec (.Assign [t] e p) env=(do standAt p;let v<-eval e env;assignStores env v (<-swappedStores [t] e env) ((assignEach [t] env).map (·.2))):=by rw[arm_exec_Assign];have:swapsWithSole [t] e p.line env=pure false:=vp Y _ _ _;exact Z this rfl
theorem B9{al}(V:bT F)(T:ey B al F){x i e Y p m}(S:hR e=false)(R:cF x al.names 0=some i)(h:bu B W F e m):dc B W F j (.Assign [.Name x Y] e p) (.aG i m):=by intro A U K E J Q k;rw[oP S];refine G.bind<|G.standAt<|G.bind<|(h (Q.mono<|aF eS) k).post fun v X P=>?_;refine G.bind<|G.pure ?_;show G B F A (do(do standAt Y;bindName F.env x v);pure Flow.next) _ E X;refine(T.slot x i R).elim fun aJ Z=>?_;refine G.bind<|G.bind<|G.standAt ?_;exact aW Z.2<|i5 V Z.1<|fv.next P
theorem Ca{o name e Y p X m}(S:f9 B W N)(R:hR e=false)(Q:bu B W F o X)(h:bu B W F e m):dc B W F j (.Assign [.Attribute o name Y] e p) (.cn X name.cps.toList m):=by intro A U K E J V k;rw[oP R];refine G.bind<|G.standAt<|G.bind<|(h (V.mono<|aF eS) k).post fun v T P=>?_;refine G.bind<|G.pure ?_;show G B F A (do(do let Z<-holding [v] (eval o F.env);standAt Y.atName;holding [v,Z] (setAttr Z name v);release [v,Z] []);pure Flow.next) _ E T;refine G.bind<|G.bind<|G.holding<|(Q (V.mono<|aF eS) P).post fun Z I M=>?_;refine G.bind<|G.standAt<|G.bind<|G.holding ?_;exact aW (j3 name)<|(u7 S M).post fun O H L=>G.release<|fv.next L
theorem Cb{o i e Y p X V m}(S:hR e=false)(L:∀a b c q,i≠.Slice a b c q)(R:bu B W F o X)(aj:bu B W F i V)(h:bu B W F e m):dc B W F j (.Assign [.Subscript o i Y] e p) (.c0 X V m):=by intro A U K E J Z k;rw[oP S];refine G.bind<|G.standAt<|G.bind<|(h (Z.mono<|aF eS) k).post fun v T Q=>?_;refine G.bind<|G.pure ?_;show G B F A (do assign (.Subscript o i Y) F.env v;pure Flow.next) _ E T;refine G.bind<|G.bind<|G.holding<|(R (Z.mono<|aF eS) Q).post fun C I P=>?_;refine G.bind<|G.holding<|(aj (Z.mono<|aF eS) P).post fun z H N=>?_;refine G.bind<|G.standAt<|G.bind<|G.holding<|(AH N).post fun O D M=>G.release<|fv.next M
theorem vr{X u v K}(k:qA X (toV u) (toV v) K J):cX B F A (inplaceOp X u v) K E J:=by
 cases X with
 |Add=>
  refine uo (u:=u) (v:=v) (i:=fun c=>K (.ae c) J) (s:=fun c=>K (.S c) J) (r:=fun O O=>False) k (fun a t b W V U Z=>?_) (fun a t b W V U l Z=>?_) fun a b V U Z=>Z.elim<;>subst V U
  .exact G.val (fun s R Q T Y=>wpAny_iadd_int<|Y _ _ rfl) Z
  .refine G.val (fun s R Q T Y=>PySem.SB.iadd (fun W ea=>Y _ _<|by rw[uk,j2]) ?_) Z;exact l
 |Sub=>obtain⟨a,t,b,W,rfl,rfl,k⟩:=gQ (p:=fun a b=>K (.ae<|a-b) J) k;exact G.val (fun s R Q T Y=>PyProof.Rows.isub_int<|Y _ _ rfl) k
 |_=>exact k.elim
theorem Cc{al}(X:bT F)(T:ey B al F){x i V e S p m}(R:cF x al.names 0=some i)(h:bu B W F e m):dc B W F j (.AugAssign (.Name x S) V e p) (.c1 i V m):=by intro A U K E J Q k;refine(T.slot x i R).elim fun aJ Z=>?_;refine(t6 k).elim fun v P k=>?_;refine G.bind<|G.standAt<|G.bind ?_;rw[<-Z.2];refine(s_load (K:=fun u Y=>u=v/\Y=J) X Z.1 P ⟨rfl,rfl⟩).post fun u Y O=>?_;obtain⟨rfl,rfl⟩:=O;refine G.bind<|G.holding<|(h (Q.mono<|aF eS) k).post fun y L N=>?_;refine G.bind<|G.standAt<|G.bind<|G.operate<|(vr N).post fun z I M=>?_;exact G.bind<|G.standAt<|G.bind<|i5 X Z.1<|fv.next M
theorem Cd{o name Z e T p Y m}(X:f9 B W N)(S:bu B W F o Y)(h:bu B W F e m):dc B W F j (.AugAssign (.Attribute o name T) Z e p) (.gm Y name.cps.toList Z m):=by intro A U K E J V k;refine G.bind<|G.standAt<|G.bind<|(S (V.mono<|aF eS) k).post fun u H R=>?_;refine G.bind<|G.holding<|G.bind<|G.standAt<|G.bind ?_;have:=u6 (F:=F) (A:=A) (E:=E) (e:=true) X R;refine this.post fun D C Q=>?_;refine G.bind<|G.holding<|(h (V.mono<|aF eS) Q).post fun y x P=>G.bind<|G.standAt<|G.operate<|(vr P).post fun z w M=>?_;refine G.bind<|G.standAt<|G.bind<|G.holding ?_;have L:=u7 (F:=F) (A:=A) (E:=E) X M;exact((j3 name)▸L).post fun O v I=>G.bind<|G.release<|fv.next I
set_option backward.match.sparseCases true
theorem Ce{al env}:∀{Y:List Expr}{aO:aa},cu (Y.map<|hQ al)=some aO->(assignEach Y env).length=Y.length/\(assignEach Y env).findIdx? (·.1)=none:=by
 intro Y;induction Y with
 |nil=>intro O O;exact⟨rfl,rfl⟩
 |cons t Y ab=>intro O h;obtain⟨i,V,rfl,X,W⟩:=fS h;obtain⟨a,b⟩:=ab W;obtain⟨x,p,rfl,X⟩:=uQ X;constructor;exact a4 a;exact Z List.findIdx?_cons<|Z b rfl
theorem rb{al}(X:bT F)(W:ey B al F)(V:b1 F A none j){Z U p}{aO:aa}{v K}(h:cu (Z.map<|hQ al)=some aO)(k:j1 aO true (toV v) K J):G B F A (assign (.Tuple Z U p) F.env v) (fun O J=>K J) E J:=by refine G.bind<|G.standAt ?_;unfold unpack;have Y:=Ce (env:=F.env) h;rw[Y.1,Y.2];exact G.bind<|G.holding<|vo V k (fun xs q=>q.elim fun O e O=>(ra e).symm.trans<|((oJ h).1).symm) fun us q=>q.elim fun O e k=>B0 X W h e k
set_option backward.match.sparseCases true in
noncomputable def mO(env:Env)(Z:Nat):Expr->Option Str|.Name id pos=>if env.kindOf id==some .local&&pos.line==Z then some id else none|_=>none
theorem Cf{env Z t x}(q:mO env Z t=some x):∃p,t=.Name x p:=by
 cases t with
 |Name y p=>by_cases g:(env.kindOf y==some .local&&p.line==Z)=true;exact⟨p,bn (Expr.Name · p)<|a2<|(if_pos g).symm.trans q⟩;exact no<|(if_neg g).symm.trans q
 |_=>exact no q
theorem Cg{env Y}{X:List Expr}(W:(X.filterMap<|mO env Y).length=X.length)(i:Nat)(u)(h:X[i]?=some u):bs fun x p=>u=.Name x p/\(X.filterMap<|mO env Y)[i]?=some x:=by
 induction X generalizing i with
 |nil=>exact no h
 |cons t X ab=>
  rcases q:mO env Y t with _|x
  .exact absurd W (by exact Z (filterMap_cons_none q)<|ne_of_lt<|lt_succ_of_le (length_filterMap_le ..))
  .
   rw[filterMap_cons_some q]at W⊢;cases i with
   |zero=>obtain rfl:=a2 h;refine(Cf q).elim fun p V=>?_;obtain rfl:=V;exact⟨x,p,rfl,rfl⟩
   |succ i=>exact ab (Nat.succ.inj W) i h
theorem Ch{al}(W:bT F)(V:ey B al F):∀{aI:List Str}{aO:aa}{us:List Value}{J Z:St}{K:St->Prop},aI.map (fun x=>cF x al.names 0)=aO.map some->putAll aO (bo us) J=some Z->K Z->
  G B F A (assignInOrder (aI.map fun n=>bindName F.env n) us) (fun O J=>K J) E J:=by
 intro aI;induction aI with
 |nil=>
  intro aO us J Z K h Y k;cases aO with
  |cons i aO=>trivial
  |nil=>
   cases us with
   |nil=>obtain rfl:=a2 Y;exact G.pure k
   |cons u us=>exact no Y
 |cons x aI ab=>
  intro aO us J Z K h Y k;cases aO with
  |nil=>trivial
  |cons i aO=>
   simp(iota:=false)only[map_cons,List.cons.injEq]at h;cases us with
   |nil=>exact no Y
   |cons u us=>refine(V.slot x i h.1).elim fun aJ X=>?_;show G B F A (do holding us (bindName F.env x u);assignInOrder (aI.map fun n=>bindName F.env n) us) _ E J;refine G.bind<|G.holding ?_;exact aW X.2<|i5 W X.1<|ab h.2 Y k
theorem Ci(us):bo us.reverse=(bo us).reverse:=by simp[bo]
set_option tactic.hygienic true in
theorem Cj{al}(w:bT F)(u:ey B al F){Y}{aO:aa}{e R Q p m}(o:hR e=false)(L:uR e=false)(V:cu (Y.map<|hQ al)=some aO)(aC:aO.Nodup)(h:bu B W F e m):
  dc B W F j (.Assign [.Tuple Y R Q] e p) (.ev aO m):=by
 intro A U K E J I k;obtain rfl:=k.1;rw[oP o];refine G.bind<|G.standAt<|G.bind<|(h (I.mono<|by exact(aF eS)) k.2).post fun v P s=>?_;have plain:G B F A (do(do assign (.Tuple Y R Q) F.env v);pure Flow.next) (fun f J=>dk (fun H=>gb f H) fun H=>K H J) E P:=G.bind<|(rb w u I V s).post fun O g r=>fv.next r;have X:swappedStores [.Tuple Y R Q] e F.env=pure none\/∃aI:List Str,ct (swappedStores [.Tuple Y R Q] e F.env=pure (some aI)) (aI.length=Y.length) (aI=Y.filterMap (mO F.env ((Y.head?.map (·.pos.line)).getD 0))):=by
  cases e<;>try(exact .inl rfl)
  rename_i ad r b;unfold swappedStores;dsimp only;split;exact .inl rfl;split;exact .inl rfl;split;exact .inl rfl;split;exact .inl rfl;split;rename_i D l;have D:=Bool.eq_false_iff.mpr D;have L:(ad.all (constantsAlone 8)&&!ad.all (foldedForSure 8))=false:=L;rw[l,D]at L;trivial
  .rename_i c _ _;refine .inr ⟨_,rfl,?_,rfl⟩;simp(iota:=false)only[Bool.or_eq_true,not_or,bne_iff_ne,ne_eq,Decidable.not_not]at c;exact c.1
 rcases X with X|⟨aI,X,C,N⟩
 .exact Z X<|G.bind<|G.pure plain
 .rw[X];refine G.bind<|G.pure ?_;have M:=(oJ V).1;show G B F A (do rule "assign.swapped-stores";let items<-unpackItems v aI.length none;assignInOrder (aI.reverse.map fun n=>bindName F.env n) items.reverse;pure Flow.next) _ E P;refine G.bind<|G.rule<|G.bind<|vo I s (fun xs q=>q.elim fun O e O=>(ra e).symm.trans<|M.symm.trans C.symm) fun us q=>q.elim fun d e k=>?_;refine G.bind<|Ch (aO:=aO.reverse) w u ?_ (by rw[Ci,BZ (ra e) aC];exact e)<|fv.next k;rw[map_reverse,map_reverse];congr 1;apply ext_getElem?;intro i;rw[List.getElem?_map,List.getElem?_map];rcases q:Y[i]? with _|t
  .
   have:Y.length<=i:=by simpa using q
   exact Z (List.getElem?_eq_none<|by exact((aT n8) C this))<|Z (List.getElem?_eq_none<|by exact((aT 0x800810100204c8088102) M this)) rfl
  .
   refine(Cg (by exact aW N C) i t q).elim fun x p T=>?_;obtain rfl:=T.1;refine((oJ V).2 i _ q).elim fun y S=>?_;have z:=S.1;rw[N,T.2,S.2];have z:cF x al.names 0=some y:=z;simp[z]
set_option backward.match.sparseCases false
theorem rd(W:bT F)(V:b1 F A U j){e s}(x:EPost B F E e s):notedBy (model B.prog B.w) A F.env (fun e X=>cameBackBy (model B.prog B.w) A F.env (EPost B F E) e X) e s:=by refine x.elim fun J a Z R Y k=>?_;obtain rfl:=Z;obtain⟨C,c⟩:=Y;exact j8 W V R c fun X bC t=>vn bC c t k
def hn(B:bY)(F:bM)(A:Around)(K:c7)(E:KE):Result->Shared->Prop
 |.ok f,s=>dk (fun J=>aS B F J s) fun J=>dk (fun Z=>gb f Z) fun Z=>K Z J
 |.error e,s=>cameBackBy (model B.prog B.w) A F.env (EPost B F E) e s
theorem G.own{c K}(h:∀s,aS B F J s->codeAny (model B.prog B.w) (A.mark none) c (hn B F A K E) s):fv B F A (runOwn c F.env) K E J:=by
 refine⟨fun s R=>wpAny_runOwn ?_⟩;have e:(fun r X=>match r with|Except.ok f=>(dk (fun Y=>aS B F Y X) (fun Y=>dk (fun W=>gb f W) (fun W=>K W Y)))|.error e=>cameBackBy (model B.prog B.w) A F.env (EPost B F E) e X)=hn B F A K E:=by funext r X;cases r<;>rfl
 exact Z e<|h s R
theorem Ck{t b p m X}(S:bT F)(L:ST B W F t m)(I:fw B W F j b X):dc B W F j (.While t b [] p) (.dO m X):=by
 intro A U K E J Z k;refine G.bind<|G.standAt ?_;refine G.own ?_;have Q:mt (wT W U m) (fun K E J=>wSs W U X K E J) K E J:=k;unfold mt at Q;refine Q (fun J=>∀s,aS B F J s->codeAny (model B.prog B.w) (A.mark none) (.whileLoop t b [] F.env) (hn B F A K E) s) fun J P s R=>?_;refine codeAny_of_tree ?_;show wpAny _ A ((whileTurn t b [] F.env).onRaise (fun x=>do noteFrame x F.env;theTreesLotGoes x)) _ _ s;refine wpAny_noted<|wpAny_bind (wpAny_mono ((L (Z.mono<|aF eS) P).run s R) (fun c s2 H=>H.elim fun O N M=>?_) fun e D x=>rd S Z x);cases c with
 |false=>exact wpAny_bind<|wpAny_pure<|wpAny_pure ⟨O,N,.bL,.next,M⟩
 |true=>
  refine wpAny_bind<|wpAny_mono ((I Z M).run s2 N) (fun f s3 z=>z.elim fun Y V z=>z.elim fun y C T=>?_) fun e D x=>rd S Z x;cases C;exact wpAny_pure ⟨rfl,T s3 V⟩
  .exact wpAny_pure ⟨Y,V,.bL,.next,T⟩
  .exact wpAny_pure ⟨Y,V,.ay _,.ret,T⟩
structure hT(B:bY)(F:bM)(W:Addr)(X:Nat->Obj->Prop)(ad:List V)(bb:Option (Nat×dM)):Prop where
 item:∀{A:Around}{E:Value->Shared->Prop}{i:Nat}{v:V}{s:Shared}{J:St}{o:Obj},ad[i]?=some v->X i o->aS B (F.guard W o) J s->dy bb J.h->
  wpAny (model B.prog B.w) A (pyNext<|.ref W) (fun r mw=>bs fun u o'=>cQ (r=some u) (toV u=v) (X (i+1) o')<|aS B (F.guard W o') J mw) E s
 fin:∀{A:Around}{E:Value->Shared->Prop}{i:Nat}{s:Shared}{J:St}{o:Obj},A.handled=none->ad[i]?=none->X i o->aS B (F.guard W o) J s->dy bb J.h->
  wpAny (model B.prog B.w) A (pyNext<|.ref W) (fun r mw=>r=none/\aS B F J mw) E s
 cls:∀i o,X i o->∃n,o.cls=.type n/\["enumerate","zip","dict_itemiterator","dict_reverseitemiterator","odict_iterator","itertools.zip_longest","itertools.pairwise"].contains n=false
def oQ(B:bY)(F:bM)(t:Expr)(aO:aa)(Z:Bool):Prop:=∀{A:Around}{j:Nat}{J:St}{K:St->Prop}{v:Value}{E:KE},b1 F A none j->j1 aO Z (toV v) K J->G B F A (assign t F.env v) (fun O J=>K J) E J
set_option backward.match.sparseCases true in
theorem Cl{M A E s t Y v o n Q}(X:s.heap.get? Y=some o)(W:o.cls=.type n)(V:["enumerate","zip","dict_itemiterator","dict_reverseitemiterator","odict_iterator","itertools.zip_longest","itertools.pairwise"].contains n=false)(q:Q () s):wpAny M A (letOwnedTupleGo t (.ref Y) v) Q E s:=by
 have go:wpAny M A (do
   let(.ref r,.ref a):=(Value.ref Y,v)|return
   let o<-load r
   match o.cls,o.data with
   |.type n,.fields ad=>
    if["enumerate","zip","dict_itemiterator","dict_reverseitemiterator","odict_iterator","itertools.zip_longest","itertools.pairwise"].contains n&&ad[0]?==some (rawInt a)then
     rule "for.unpacks-the-owned-tuple"
     updateField r 0 .none
   |_,_=>pure ():Sem Unit) Q E s:=by
  cases v<;>try(exact wpAny_pure q)
  refine wpAny_bind<|wpAny_load X ?_;rw[W];generalize o.data=d;cases d with
  |fields ad=>show wpAny _ _ (if(_&&_)=true then _ else _) _ _ _;exact Z V<|wpAny_pure q
  |_=>exact wpAny_pure q
 cases t<;>first|exact wpAny_pure q|exact go
theorem Cm{t b aO P N Z V ad bb o s K}(v:bT F)(S:b1 F A none (10+j))(q:∀a o,oQ B (F.guard a o) t aO P)(p:∀a o,fw B W (F.guard a o) j b N)(w:hT B F Z V ad bb)(aj:V 0 o)(R:aS B (F.guard Z o) J s)(l:dy bb J.h)(k:ms (fun K E J=>wSs W none N K E J) aO P bb ad K J E):
  codeAny (model B.prog B.w) (A.mark none) (.forLoop t (.ref Z) b [] F.env) (hn B F A K E) s:=by
 have G:∀{o e s},EPost B (F.guard Z o) E e s->notedBy (model B.prog B.w) A F.env (fun e M=>hn B F A K E (.error e) M) e s:=fun x=>rd v S x.k5;refine codeAny_forLoop_any (fun n s=>cP fun i J o=>fI (n=ad.length-i) (i<=ad.length) (V i o) (aS B (F.guard Z o) J s) (dy bb J.h)<|ms (fun K E J=>wSs W none N K E J) aO P bb (ad.drop i) K J E)
  (fun n s g=>?_) ad.length ⟨0,J,o,rfl,zero_le _,aj,R,l,k⟩
 refine g.elim fun i J o X=>?_;have k:=X.6;by_cases Y:i<ad.length
 .have L:ad[i]?=some ad[i]:=List.getElem?_eq_getElem Y;refine wpAny_mono (w.item L X.3 X.4 X.5) (fun r s1 z=>z.elim fun u o' z=>?_) fun O O x=>x;obtain rfl:=z.1;have U:ad.drop i=ad[i]::ad.drop (i+1):=drop_eq_getElem_cons Y;rw[U]at k;refine(w.cls _ _ z.3).elim fun n' D=>?_;have I:s1.heap.get? Z=some o':=by refine z.4.elim fun O m cv r O=>?_;exact(r.pr (Z,o') cw).1
  refine Cl I D.1 D.2 ?_;rw[<-z.2]at k;refine wpAny_mono (((q Z o') (S.guard Z o') k).run s1 z.4) (fun _ s2 d=>d.elim fun a0 c k2=>?_) fun e M x=>G x;refine wpAny_mono (((p Z o') (S.guard Z o') k2).run s2 c) (fun f s3 y=>y.elim fun T H y=>y.elim fun fl hf Q=>?_) fun e M x=>G x;cases hf;exact⟨ad.length-(i+1),((bV 0x840930902812302110810100204c0208113) X.1 (bt ad.length i)<|bz Y),i+1,T,o',rfl,Y,z.3,H,Q.1,Q.2⟩
  .exact⟨T,H.k5,.bL,.next,Q⟩
  .exact⟨T,H.k5,.ay _,.ret,Q⟩
 .have L:ad[i]?=none:=List.getElem?_eq_none<|(az 0x10020500088101) Y;refine wpAny_mono (w.fin S.handled L X.3 X.4 X.5) (fun r s1 C=>C.elim fun hr bC=>?_) fun O O x=>x;subst hr;have U:ad.drop i=[]:=drop_of_length_le<|(az 0x10020500088101) Y;rw[U]at k;exact wpAny_pure ⟨J,bC,.bL,.next,k⟩
theorem vs{Z env}(h:∀a b c,Z≠.Set a b c)(x):foldedSetIterable Z env x=pure x:=by cases Z<;>first|rfl|exact absurd rfl<|h _ _ _
theorem aS.next{Z o o' s Y n}(R:aS B (F.guard Z o) J s)(x:Heap.SameBut Z s.heap Y)(g:Y.get? Z=some o')(W:o'.cls≠.type "traceback"):aS B (F.guard Z o') J {s with heap:=Y,toks:=n}:=by refine R.elim fun st m X r f=>?_;exact⟨st,m,X,Rel.guard (pre:=cellsOf F.slots X) (post:=F.prot) r (fun b U V e=>(x.2 b V).trans e) (Nat.le_of_eq x.1.symm) g W,f⟩
theorem Rel.last{ups pre post h H H' a o}(R:Rel B ups (pre++(a,o)::post) h H)(k:∀b x,b≠a->H.get? b=some x->H'.get? b=some x)(I:B.h₀.objs.size<=H'.objs.size):Rel B ups (pre++post) h H':=by
 have Z:=R.pr (a,o) cw;have U:=Z.1;have D:=R.drop;have b8:∀T ba X,H.get? T=some ba->ba.cls=.type "traceback"->ba.data=.fields X->3<X.size->bs fun Y W=>cQ (H'.get? T=some Y) (Y.cls=.type "traceback") (Y.data=.fields W) (3<W.size):=fun T ba X S Q G F=>by by_cases q:T=a;subst q;rw[S]at U;obtain rfl:=a2 U;exact absurd Q Z.2.2.2.2;exact⟨ba,X,k T _ q S,Q,G,F⟩
 refine⟨I,fun b x e=>k b x (fun q=>no (Z.2.1▸(q▸e)))<|D.keep b x e,fun b ao e=>?_,fun u P=>?_,D.nodup,D.dG,fun p O=>?_⟩;obtain⟨n,x,N⟩:=D.objs b ao e;exact⟨n,x,k b x (fun q=>by subst q;exact no<|Z.2.2.1.symm.trans e) N.1,N.2.on b8⟩;have M:=D.fr u P;obtain⟨x,es,ep,V⟩:=M.1;have ne:u.L≠a:=fun q=>Z.2.2.2.1<|aW q<|List.mem_map_of_mem P;exact⟨⟨x,es,ep,k _ _ ne V.1,V.2⟩,M.2⟩
 .have K:=D.pr p O;refine⟨k _ _ (fun q=>?_) K.1,K.2⟩;have aC:=R.dG;rw[map_append,map_cons]at aC;have J:=nodup_append.mp aC;rcases mem_append.mp O with w|w
  .exact J.2.2 _ (List.mem_map_of_mem w) _ (.head _) q
  .exact(nodup_cons.mp J.2.1).1<|mem_map.mpr ⟨p,w,q⟩
theorem aS.last{Z o s Y n}(V:B.h₀.objs.size<=F.L)(R:aS B (F.guard Z o) J s)(x:Heap.ExtBut Z s.heap Y):aS B F J {s with heap:=Y,toks:=n}:=by refine R.elim fun st m X r f=>?_;have W:F.L≠Z:=fun q=>(r.pr (Z,o) cw).2.2.2.1<|aW q mem_cons_self;obtain⟨⟨S,es,ep,U,_⟩,_⟩:=r.fr ⟨F.env,F.L,m,F.act⟩<|.head _;exact⟨st,m,X,Rel.last (pre:=cellsOf F.slots X) (post:=F.prot) r (fun b o T e=>x b o T e)<|bp V<|Nat.le_of_lt<|Heap.lt_size<|x _ _ W U,f⟩
theorem aS.got{Z o s}(R:aS B (F.guard Z o) J s):s.heap.get? Z=some o/\∀a ao,J.h a=some ao->a≠Z:=by refine R.elim fun st m X r f=>?_;have Y:=r.pr (Z,o) cw;exact⟨Y.1,fun a ao e q=>by subst q;exact no<|Y.2.2.1.symm.trans e⟩
theorem vt{S l xs}(Q:B.h₀.objs.size<=F.L):hT B F S (fun i o=>o.cls=.type "list_iterator"/\o.data=.fields #[.ref l,.int i 0]) xs (some (l,.ag xs))where
 item:=fun{A E i v s J o} U aj R T=>by
  refine(aS.list R T).elim fun items ep W=>?_;have Y:=hm W.2 i;rw[U]at Y;rcases e:items.toList[i]? with _|u
  .exact no (e▸Y)
  .
   rw[e]at Y;refine wpAny_pyNext_list_item ⟨o,R.got.1,aj.1,aj.2⟩ (fc W.1) (x:=u) (aW Array.getElem?_toList e) fun P O N=>O.elim fun o' X=>?_;exact⟨u,o',rfl,a2 Y,⟨X.2.1,X.2.2⟩,R.next N X.1<|Z X.2.1<|aU⟩
 fin:=fun{A E i s J o} M U aj R T=>by refine(aS.list R T).elim fun items ep V=>?_;have Y:=hm V.2 i;rw[U]at Y;refine wpAny_pyNext_list_end M ⟨o,R.got.1,aj.1,aj.2⟩ (fc V.1) (aW Array.getElem?_toList<|Option.map_eq_none_iff.mp Y) fun P x=>⟨rfl,R.last Q x⟩
 cls:=fun i o aj=>⟨_,aj.1,by rfl⟩
theorem Cn{Q l xs}(P:B.h₀.objs.size<=F.L):hT B F Q (fun i o=>o.cls=.type "tuple_iterator"/\o.data=.fields #[.ref l,.int i 0]) xs (some (l,.an xs))where
 item:=fun{A E i v s J o} U aj R T=>by
  refine(aS.tup R T).elim fun items ep W=>?_;have Y:=hm W.2 i;rw[U]at Y;rcases e:items.toList[i]? with _|u
  .exact no (e▸Y)
  .
   rw[e]at Y;refine wpAny_pyNext_tuple_item ⟨o,R.got.1,aj.1,aj.2⟩ (f7 W.1) (x:=u) (aW Array.getElem?_toList e) fun O S N=>S.elim fun o' X=>?_;exact⟨u,o',rfl,a2 Y,⟨X.2.1,X.2.2⟩,R.next N X.1<|Z X.2.1<|aU⟩
 fin:=fun{A E i s J o} M U aj R T=>by refine(aS.tup R T).elim fun items ep V=>?_;have Y:=hm V.2 i;rw[U]at Y;refine wpAny_pyNext_tuple_end M ⟨o,R.got.1,aj.1,aj.2⟩ (f7 V.1) (aW Array.getElem?_toList<|Option.map_eq_none_iff.mp Y) fun O x=>⟨rfl,R.last P x⟩
 cls:=fun i o aj=>⟨_,aj.1,by rfl⟩
theorem aS.re{a:Addr}{es ep s}(R:aS B F J s)(e:J.h a=some (.av es ep)):∃Z,s.heap.DictAt (strKind B.prog B.w) a Z ep/\ee Z=es:=by refine R.elim fun O O O r O=>?_;obtain⟨_,o,X,Z,⟨Y,W,V,U,T,S⟩,q⟩:=r.objs _ _ e;exact⟨Z,⟨o,Y,X,W,V,U,T,S⟩,q⟩
theorem aS.rf{a:Addr}{es ep s}(R:aS B F J s)(e:J.h a=some (.b2 es ep)):∃Z,s.heap.DictAt (intKind B.prog B.w) a Z ep/\hO Z=es:=by refine R.elim fun O O O r O=>?_;obtain⟨_,o,X,Z,⟨Y,W,V,U,T,S⟩,q⟩:=r.objs _ _ e;exact⟨Z,⟨o,Y,X,W,V,U,T,S⟩,q⟩
theorem Co{I d es}{ep:Nat}(H:B.h₀.objs.size<=F.L):hT B F I (fun i o=>o.cls=.type "dict_keyiterator"/\o.data=.fields #[.ref d,.int i 0,.int es.length 0,.int ep 0]) (es.map fun e=>.S e.1) (some (d,.av es ep))where
 item:=fun{A E i v s J o} U aj R O=>by
  refine(aS.re R O).elim fun X Q=>?_;have q:=Q.2;have Y:=is q;subst q;rw[<-Y]at aj⊢;have N:(X[i]?).map (fun p=>V.S p.1.cps.toList)=some v:=by rw[<-U];simp[ee];cases X[i]?<;>rfl
  rcases e:X[i]? with _|p
  .exact no (e▸N)
  .
   rw[e]at N;obtain⟨k,u⟩:=p;refine wpAny_pyNext_dict_item ⟨o,R.got.1,aj.1,aj.2⟩ Q.1 e fun M G D K C=>K.elim fun o' W=>?_;refine⟨M,o',rfl,?_,⟨W.2.1,W.2.2⟩,R.next C W.1<|Z W.2.1<|aU⟩;refine(Value.isStrOf_shape D).elim fun t T=>?_;obtain rfl:=T;exact a2 N
 fin:=fun{A E i s J o} z U aj R O=>by refine(aS.re R O).elim fun X P=>?_;have q:=P.2;have Y:=is q;subst q;rw[<-Y]at aj;refine wpAny_pyNext_dict_end z ⟨o,R.got.1,aj.1,aj.2⟩ P.1 ?_ fun G x=>⟨rfl,R.last H x⟩;simp[ee]at U⊢;exact U
 cls:=fun i o aj=>⟨_,aj.1,by rfl⟩
theorem Cp{K d es}{ep:Nat}(I:B.h₀.objs.size<=F.L):hT B F K (fun i o=>o.cls=.type "dict_keyiterator"/\o.data=.fields #[.ref d,.int i 0,.int es.length 0,.int ep 0]) (es.map fun e=>.ae e.1) (some (d,.b2 es ep))where
 item:=fun{A E i v s J o} U aj R P=>by
  refine(aS.rf R P).elim fun X S=>?_;have q:=S.2;have Y:=mz q;subst q;rw[<-Y]at aj⊢;have O:(X[i]?).map (fun p=>V.ae p.1)=some v:=by rw[<-U];simp[hO];cases X[i]?<;>rfl
  rcases e:X[i]? with _|p
  .exact no (e▸O)
  .
   rw[e]at O;obtain⟨k,u⟩:=p;refine wpAny_pyNext_dict_item ⟨o,R.got.1,aj.1,aj.2⟩ S.1 e fun N H G M D=>M.elim fun o' W=>?_;refine⟨N,o',rfl,?_,⟨W.2.1,W.2.2⟩,R.next D W.1<|Z W.2.1<|aU⟩;refine(Value.isInt_shape G).elim fun t T=>?_;obtain rfl:=T;exact a2 O
 fin:=fun{A E i s J o} C U aj R P=>by refine(aS.rf R P).elim fun X Q=>?_;have q:=Q.2;have Y:=mz q;subst q;rw[<-Y]at aj;refine wpAny_pyNext_dict_end C ⟨o,R.got.1,aj.1,aj.2⟩ Q.1 ?_ fun H x=>⟨rfl,R.last I x⟩;simp[hO]at U⊢;exact U
 cls:=fun i o aj=>⟨_,aj.1,by rfl⟩
theorem Cq{H x t}(N:B.h₀.objs.size<=F.L):hT B F H (fun i o=>o.cls=.type (strIterType<|aX x)/\o.data=.fields #[.str (aX x) t,.int i 0]) (x.map fun c=>.S [c]) none where
 item:=fun{A E i v s J o} V aj R G=>by
  have T:=R.got;rcases e:x[i]? with _|c
  .simp[e]at V
  .
   simp[e]at V;subst V;have U:(aX x).cps[i]?=some c:=by simpa[aX]using e
   unfold strIterType at aj⊢;cases Y:(aX x).cps.all (·<128)
   .rw[Y]at aj;refine wpAny_pyNext_wide_item ⟨o,T.1,aj.1,aj.2⟩ U fun P M O=>M.elim fun o' X=>?_;exact⟨_,o',rfl,rfl,⟨X.2.1,X.2.2⟩,R.next O X.1<|Z X.2.1<|aU⟩
   .rw[Y]at aj;refine wpAny_pyNext_ascii_item ⟨o,T.1,aj.1,aj.2⟩ U fun P K O=>K.elim fun o' W=>?_;exact⟨_,o',rfl,rfl,⟨W.2.1,W.2.2⟩,R.next O W.1<|Z W.2.1<|aU⟩
 fin:=fun{A E i s J o} I V aj R G=>by
  have Q:=R.got;have U:(aX x).cps[i]?=none:=by simpa[aX]using V
  unfold strIterType at aj;cases Y:(aX x).cps.all (·<128);exact wpAny_pyNext_wide_end I ⟨o,Q.1,(Y▸aj).1,(Y▸aj).2⟩ U fun P x=>⟨rfl,R.last N x⟩;exact wpAny_pyNext_ascii_end I ⟨o,Q.1,(Y▸aj).1,(Y▸aj).2⟩ U fun P x=>⟨rfl,R.last N x⟩
 cls:=fun i o aj=>by refine⟨_,aj.1,?_⟩;unfold strIterType;split<;>rfl
theorem vu(n):∀(lo:Int)(i:Nat),(j0 lo n)[i]?=if i<n then some (.ae<|lo+i)else none:=by
 induction n with
 |zero=>intro lo i;exact(if_neg<|not_lt_zero i).symm
 |succ n ab=>
  intro lo i;cases i with
  |zero=>exact Z (if_pos<|succ_pos n)<|Z (show lo+((0:Nat):Int)=lo from Int.add_zero lo) rfl
  |succ i=>
   refine(ab (lo+1) i).trans ?_;by_cases h:i<n
   .rw[if_pos h,if_pos<|succ_lt_succ h,Int.natCast_succ,Int.add_comm (i:Int) 1,Int.add_assoc]
   .exact(if_neg h).trans (if_neg fun q=>h<|lt_of_succ_lt_succ q).symm
theorem Cr(st)(n):∀(lo:Int)(i:Nat),(fa st lo n)[i]?=if i<n then some (.ae<|lo+st*i)else none:=by
 induction n with
 |zero=>intro lo i;exact(if_neg<|not_lt_zero i).symm
 |succ n ab=>
  intro lo i;cases i with
  |zero=>exact Z (if_pos<|succ_pos n) (Z (show lo+st*((0:Nat):Int)=lo from(bn (lo+·)<|Int.mul_zero st).trans (Int.add_zero lo)) rfl)
  |succ i=>
   refine(ab (lo+st) i).trans ?_;by_cases h:i<n
   .rw[if_pos h,if_pos<|succ_lt_succ h,Int.natCast_succ,Int.mul_add,Int.mul_one,Int.add_comm (st*i) st,Int.add_assoc]
   .exact(if_neg h).trans (if_neg fun q=>h<|lt_of_succ_lt_succ q).symm
noncomputable abbrev oR(x left st:Int):Obj:={cls:=.type "range_iterator",dict:=none,data:=.fields #[rawInt x,rawInt left,rawInt st],slots:=#[]}
set_option tactic.hygienic true in
theorem rg{V lo st n ad}(X:∀i:Nat,ad[i]?=if i<n then some (.ae<|lo+st*i)else none)(U:B.h₀.objs.size<=F.L):hT B F V (fun i o=>i<=n/\o=oR (lo+st*i) (n-i) st) ad none where
 item:=fun{A E i v s J o} Y aj R T=>by
  obtain rfl:=aj.2;rw[X]at Y;split at Y
  .rename_i W;obtain rfl:=a2 Y;refine wpAny_pyNext_range_item R.got.1 (Int.sub_pos_of_lt<|Int.ofNat_lt.mpr W) fun S Q P=>?_;refine⟨_,_,rfl,rfl,⟨W,rfl⟩,R.next P ?_<|aU⟩;exact Z (show(lo+st*((i+1:Nat):Int))=lo+st*i+st by rw[Int.natCast_add,Int.mul_add];simp;exact Eq.symm<|Int.add_assoc lo (st*↑i) st)<|Z (show((n:Int)-((i+1:Nat):Int))=n-i-1 from(Int.sub_sub (n:Int) (i:Int) 1).symm) Q
  .exact no Y
 fin:=fun{A E i s J o} O Y aj R T=>by obtain rfl:=aj.2;rw[X]at Y;split at Y;trivial;exact wpAny_pyNext_range_end O R.got.1 (Int.sub_nonpos_of_le<|Int.ofNat_le.mpr<|Nat.le_of_not_lt ‹¬i<n›) fun S x=>⟨rfl,R.last U x⟩
 cls:=fun i o aj=>⟨"range_iterator",a4 aj.2,by rfl⟩
theorem aS.ga{s n}(R:aS B F J s)(o)(Y:o.cls≠.type "traceback")(X:o.isFreed=false):aS B (F.guard s.heap.objs.size o) J {s with heap:=s.heap.push o,toks:=n}:=by refine R.elim fun st m Z r f=>?_;exact⟨st,m,Z,r.ga (pre:=cellsOf F.slots Z) (post:=F.prot) o Y X,f⟩
theorem vv{c K s}(h:codeAny (model B.prog B.w) (A.mark none) c (hn B F A K E) s):wpAny (model B.prog B.w) A (runOwn c F.env) (fun f W=>dk (fun Y=>aS B F Y W) fun Y=>dk (fun X=>gb f X) fun X=>K X Y) (EPost B F E) s:=by
 refine wpAny_runOwn ?_;have e:(fun r W=>match r with|Except.ok f=>(dk (fun Y=>aS B F Y W) (fun Y=>dk (fun X=>gb f X) (fun X=>K X Y)))|.error e=>cameBackBy (model B.prog B.w) A F.env (EPost B F E) e W)=hn B F A K E:=by funext r W;cases r<;>rfl
 exact Z e h
theorem oS{i}(h:i.natAbs<=2^62):Builtin.Range.rangeFitsLong i=true:=
 Bool.and_eq_true_iff.mpr ⟨decide_eq_true<|om (qw<|lt_succ_of_le h) rfl,decide_eq_true<|jR (qx<|lt_succ_of_le h) rfl⟩
theorem rh{i}(a:-(2^60)<i)(b:i<2^60):i.natAbs<=2^60:=Int.ofNat_le.mp<|(Int.natAbs_eq i).elim (fun e=>Int.le_trans (Int.le_of_eq e.symm)<|Int.le_of_lt b) fun e=>Int.le_of_lt<|Int.lt_of_neg_lt_neg (e▸a)
theorem vw{a b}(c:Int)(Z:a.natAbs<=2^60)(Y:b.natAbs<=2^60):((a-b-1)/c+1).natAbs<=2^62:=
 bp (Int.natAbs_add_le _ _) (bp (Nat.add_le_add_right (bp (Int.natAbs_ediv_le_natAbs _ _)<|bp (Int.natAbs_sub_le _ _)<|Nat.add_le_add_right (bp (Int.natAbs_sub_le _ _)<|add_le_add Z Y) _) _)<|aL)
theorem vx{a b c}(h:b<a)(Z:0<=c):(a-b-1)/c+1=(((a-b-1)/c+1).toNat:Int):=
 (Int.toNat_of_nonneg<|Int.add_nonneg (Int.ediv_nonneg (Int.le_sub_one_of_lt<|Int.sub_pos_of_lt h) Z)<|bQ).symm
theorem ri{lo aj st}(O:st≠0)(U:-(2^60)<lo)(T:lo<2^60)(S:-(2^60)<aj)(R:aj<2^60)(Q:-(2^60)<st)(P:st<2^60):Builtin.Range.small lo aj st=true/\Builtin.Range.rangeSize lo aj st=fs lo aj st:=by
 have W:=rh U T;have Y:=rh S R;have V:=rh Q P;have X:Builtin.Range.rangeSize lo aj st=fs lo aj st/\(Builtin.Range.rangeSize lo aj st).natAbs<=2^62:=by unfold Builtin.Range.rangeSize fs;by_cases c:0<st;rw[if_pos c,if_pos c];by_cases d:lo<aj;exact Z (if_pos d)<|Z (if_pos d) ⟨vx d<|Int.le_of_lt c,vw _ Y W⟩;exact Z (if_neg d)<|Z (if_neg d) ⟨rfl,zero_le _⟩;rw[if_neg c,if_neg c];by_cases d:aj<lo;exact Z (if_pos d)<|Z (if_pos d) ⟨vx d<|Int.neg_nonneg_of_nonpos<|Int.not_lt.mp c,vw _ W Y⟩;exact Z (if_neg d)<|Z (if_neg d) ⟨rfl,zero_le _⟩
 refine⟨?_,X.1⟩;have le {i:Int} (h:i.natAbs<=2^60):=oS<|bp h (aL:2^60<=2^62);unfold Builtin.Range.small;rw[le W,le Y,le V,oS X.2];refine(Bool.or_eq_true _ _).mpr<|.inr ?_;split;exact oS<|bp (Int.natAbs_add_le _ _)<|bp (add_le_add Y<|bp (Int.natAbs_sub_le _ _)<|Nat.add_le_add_right V _)<|aL;exact oS<|bp (Int.natAbs_add_le _ _)<|bp (add_le_add Y<|bp (Int.natAbs_add_le _ _)<|Nat.add_le_add_right V _)<|aL
theorem Cs(bf:dl B)(W:B.h₀.objs.size<=F.L){x P s Q f}(h:mq J.h (toV x) P)(R:aS B F J s)(q:∀xs bb,P xs bb->∀K V o z,hT B F K V xs bb->V 0 o->aS B (F.guard K o) J z->dy bb J.h->Q (.ref K) z):wpAny (model B.prog B.w) A (pyIter x) Q f s:=by
 generalize U:toV x=v at h;cases v with
 |a5|aP|ae|cg|b5|odd=>exact h.elim
 |S=>refine(cN U).elim fun t I=>?_;obtain rfl:=I;exact wpAny_pyIter_strU<|q _ _ h _ _ _ _ (Cq (t:=t) W) ⟨rfl,rfl⟩ (R.ga _ (by simp[strIterType];split<;>exact aU) rfl) trivial
 |Y a=>
 have U:=b7 U;subst U;cases(show fP J.h a P from h)with
 |@list e X p=>refine(R.list X).elim fun items ep y=>?_;exact wpAny_pyIter_list (fc y.1)<|q _ _ p _ _ _ _ (vt (l:=a) W) ⟨rfl,rfl⟩ (R.ga _ (aU) rfl) X
 |@tup e X p=>refine(R.tup X).elim fun items ep k=>?_;exact wpAny_pyIter_tuple (f7 k.1)<|q _ _ p _ _ _ _ (Cn (l:=a) W) ⟨rfl,rfl⟩ (R.ga _ (aU) rfl) X
 |@av ep es X p=>refine(R.re X).elim fun j T=>?_;exact wpAny_pyIter_dict (R.low bf X) T.1<|Z (is T.2) (q _ _ p _ _ _ _ (Co (d:=a) W) ⟨rfl,rfl⟩ (R.ga _ (aU) rfl) X)
 |@b2 ep es X p=>refine(R.rf X).elim fun j N=>?_;exact wpAny_pyIter_dict (R.low bf X) N.1<|Z (mz N.2) (q _ _ p _ _ _ _ (Cp (d:=a) W) ⟨rfl,rfl⟩ (R.ga _ (aU) rfl) X)
 |@range lo aj X p=>
  refine(id R).elim fun O m c r O=>?_;obtain⟨_,o,H,⟨t,u,v,rfl⟩,G,E,D,C⟩:=r.objs _ _ X;have g:=ri (st:=1) (aU) G E D C (Int.NonNeg.mk _)<|bQ;refine wpAny_pyIter_range H g.1 ?_;have b:Builtin.Range.rangeSize lo aj 1=gN lo aj:=by unfold Builtin.Range.rangeSize gN;simp only[show(1:Int)>0 by exact Int.natCast_nonneg _,if_true,Int.ediv_one];exact tW
  rw[b];refine q _ _ p _ _ _ _ (rg (lo:=lo) (st:=1) (n:=gN lo aj) (fun i=>?_) W) ⟨zero_le _,?_⟩ (R.ga _ (aU) rfl) trivial
  .rw[vu];simp
  .simp[oR,rawInt]
 |@eF lo aj st X p=>
  refine(id R).elim fun O m c r O=>?_;obtain⟨_,o,H,⟨t,u,v,rfl⟩,b0,G,E,D,C,a0,b6⟩:=r.objs _ _ X;have M:=ri b0 G E D C a0 b6;refine wpAny_pyIter_range H M.1 ?_;rw[M.2];refine q _ _ p _ _ _ _ (rg (lo:=lo) (st:=st) (n:=fs lo aj st) (fun i=>?_) W) ⟨zero_le _,?_⟩ (R.ga _ (aU) rfl) trivial
  .rw[Cr]
  .simp[oR,rawInt]
theorem vy{t Z b aO V p m T}(bf:dl B)(Q:bT F)(P:B.h₀.objs.size<=F.L)(Y:∀a b c,Z≠.Set a b c)(O:∀a o,oQ B (F.guard a o) t aO V)(aj:bu B W F Z m)(N:∀a o,fw B W (F.guard a o) j b T):dc B W F j (.For t Z b [] p) (.b6 aO V m T):=by intro A U K E J S k;obtain rfl:=k.1;refine G.bind<|G.standAt<|G.bind<|(aj (S.mono<|aF eS) k.2).post fun x D X=>?_;rw[vs Y];refine G.bind<|G.pure<|G.bind<|G.standAt ⟨fun s R=>wpAny_bind<|wpAny_holding ?_⟩;exact Cs bf P X R fun xs bb X Z M o C w I bC H=>vv<|Cm Q S O N w I bC H X
theorem vz{al}(Y:bT F)(X:ey B al F){x p i}(h:cF x al.names 0=some i):oQ B F (.Name x p) [i] false:=by intro A j J K v E W k;refine(X.slot x i h).elim fun aJ Z=>?_;show G B F A (do standAt p;bindName F.env x v) _ E J;refine G.bind<|G.standAt ?_;exact aW Z.2<|i5 Y Z.1 k
theorem Ct{al}(Y:bT F)(X:ey B al F){Z W p}{aO:aa}(h:cu (Z.map<|hQ al)=some aO):oQ B F (.Tuple Z W p) aO true:=by intro A j J K v E V k;exact rb Y X V h k
end
section
variable{M:Model}{A:Around}{E:Value->Shared->Prop}{s:Shared}
theorem mP{a o Q}(Z:s.heap.get? a=some o)(q:Q o.cls s):wpAny M A (typeOf<|.ref a) Q E s:=by exact wpAny_bind<|wpAny_loadPart Z<|wpAny_pure q
theorem vA{a o ad Q}(Y:s.heap.get? a=some o)(U:o.data=.fields ad)(q:Q false s):wpAny M A (isType<|.ref a) Q E s:=by refine wpAny_bind<|wpAny_loadPart Y ?_;exact Z U<|wpAny_pure q
theorem Cu{a o be Q}(Y:s.heap.get? a=some o)(U:o.data=.cls be)(q:Q true s):wpAny M A (isType<|.ref a) Q E s:=by refine wpAny_bind<|wpAny_loadPart Y ?_;exact Z U<|wpAny_pure q
theorem rj{C o be Z Q}(X:s.heap.get? C=some o)(U:o.data=.cls be)(Y:be.mro.isEmpty=false)(q:Q (be.mro.contains Z) s):wpAny M A (isSubtype (.ref C) Z) Q E s:=by refine wpAny_bind<|wpAny_bind<|wpAny_bind<|wpAny_load X ?_;rw[U];refine wpAny_pure<|wpAny_pure ?_;simp(iota:=false)only[Y,Bool.false_eq_true,if_false];exact wpAny_bind<|wpAny_pure<|wpAny_pure q
theorem Cv{t Y b Q}(h:isSubtype t Y=pure b)(q:Q b s):wpAny M A (isSubtype t Y) Q E s:=Z h<|wpAny_pure q
theorem Cw:entryFor table "proto.unchain"=some Builtin.«proto.unchain»:=entryFor_of_fast (by kernel_rfl)
end
section
variable{B:bY}{W:bS}{N:Nat}{F:bM}{A:Around}{E:KE}{J:St}{aq ck:Type}{U:Option Nat}{j:Nat}
theorem i3.at{C}(x:i3 B C){s}(R:aS B F J s):cP fun Y be aJ=>cQ (s.heap.get? C=some ⟨.type "type",Y,.cls be,aJ⟩) (be.mro.contains (.type "BaseException")=true) (be.mro.contains (.ref C)=true) (be.mro.isEmpty=false):=by refine x.elim fun Y be aJ Z=>?_;refine R.elim fun O m W X O=>?_;exact⟨Y,be,aJ,X.keep _ _ Z.1,Z.2,Z.3,Z.4⟩
theorem Cx(z:b1 F A U j){aq a C d c Q s}(R:aS B F J s)(e:J.h a=some (.bD C d c))(k:mu (fun a h=>E a {J with h}) J.h a C d c U):
  wpAny (model B.prog B.w) A (raiseNew (.ref a):Sem aq) Q (EPost B F E) s:=by
 refine wpAny_bind<|wpAny_handled ?_;rw[z.handled];cases k with
 |none k=>exact wpAny_bind<|wpAny_pure<|wpAny_throw ⟨J,a,rfl,R,⟨C,d,c,e⟩,k⟩
 |same k=>show wpAny _ _ (if(Value.ref a !=Value.ref a)=true then _ else _) _ _ _;exact Z (if_neg<|by simp)<|wpAny_bind<|wpAny_pure<|wpAny_throw ⟨J,a,rfl,R,⟨C,d,c,e⟩,k⟩
 |@new b C' y x W v u X k=>
   show wpAny _ _ (if(Value.ref b !=Value.ref a)=true then _ else _) _ _ _;rw[if_pos (show(Value.ref b !=Value.ref a)=true by simpa using v)];obtain⟨_,c2,a0,a1,vB,O,N,n2,M,_,_,_,_⟩:=R.exc ⟨y,x,W⟩;rw[W]at O;cases O;refine wpAny_bind<|wpAny_holding<|wpAny_runValue<|codeAny_builtin Cw ?_;refine wpAny_bind<|wpAny_field N rfl (M X) ?_;refine wpAny_pure<|wpAny_bind ?_;obtain⟨_,c1,V,L,k6,K,Y,I,a3,H,S,t,p⟩:=R.exc ⟨d,c,e⟩;rw[e]at K;cases K;refine wpAny_bind<|wpAny_load Y ?_;show wpAny _ _ (if 2<V.size then update a (Obj.mapFields (·.setIfInBounds 2 (.ref b)))else unsupported "internal:no-such-field") _ _ s;rw[if_pos<|by exact((aF 0xa0cc08008118111) I)];refine wpAny_update Y ?_;obtain⟨st,m,o,r,f⟩:=R;have G:qH B (s.heap.update a (Obj.mapFields (·.setIfInBounds 2 (.ref b)))) k6:=by
    rcases S with q|⟨T,ba,n,q,P,D,l,i,g⟩
    .exact .inl q
    .refine .inr ⟨T,ba,n,q,?_,D,l,i,g⟩;exact Z (Heap.get?_update_ne _ _ _ _ (fun q2=>by subst q2;rw[Y]at P;obtain rfl:=a2 P;cases D)) P
   have r':=r.upd (ao':=.bD C d ⟨true,c.b8⟩) (f:=Obj.mapFields (·.setIfInBounds 2 (.ref b))) e Y ⟨V.setIfInBounds 2<|.ref b,L,k6,rfl,by simpa using I,(fun q=>by trivial),by rw[Array.getElem?_setIfInBounds_ne<|of_decide_eq_true rfl];exact H,G,t,p⟩;exact wpAny_throw ⟨{J with h:=J.h.set a (.bD C d ⟨true,c.b8⟩)},a,rfl,⟨st,m,o,r',f⟩,⟨C,d,⟨true,c.b8⟩,if_pos rfl⟩,k⟩
theorem Cy{e p m}(h:bu B W F e m):dc B W F j (.Raise (some e) none p) (.ca m):=by
 intro A U K E J V k;refine G.bind<|G.standAt ?_;show G B F A (raiseStmt F.env (some (do let v<-eval e F.env;standAt p;pure v)) none) _ E J;refine G.bind<|G.bind<|(h (V.mono<|aF eS) k).post fun v N T=>G.bind<|G.standAt<|G.pure ?_;generalize Q:toV v=u at T;cases T with
 |@mk a C d c X P=>obtain rfl:=b7 Q;refine G.bind<|G.pure ⟨fun s R=>?_⟩;refine(R.exc ⟨d,c,X⟩).elim fun O I M L k6 Z=>?_;have S:=Z.1;rw[X]at S;cases S;refine(Z.7.at R).elim fun H be aJ Y=>?_;refine wpAny_bind<|wpAny_holding ?_;refine wpAny_bind<|wpAny_bind<|vA Z.2 rfl ?_;refine wpAny_pure<|wpAny_bind (wpAny_bind<|mP Z.2<|rj Y.1 rfl Y.4 ?_);rw[Y.2];refine wpAny_pure<|wpAny_bind (vA Z.2 rfl ?_);refine wpAny_bind<|wpAny_bind<|mP Z.2<|wpAny_bind<|mP Y.1 ?_;refine wpAny_pure<|wpAny_bind (iu R ⟨d,c,X⟩ fun D bC O=>?_);exact Cx V bC X P
theorem aS.mark{s}(R:aS B F J s){a C d c}(e:J.h a=some (.bD C d c))(t:j7 B s.heap a):aS B F {J with h:=J.h.set a (.bD C d ⟨c.ctx,true⟩)} s:=by refine R.elim fun st m U r f=>?_;obtain⟨_,o,Y,ad,aJ,b8,rfl,S,Q,X,Z,P,M⟩:=r.objs _ _ e;obtain⟨o',hK,T,ba,L,W,N,V,_⟩:=t;rw[Y]at W;obtain rfl:=a2 W;cases N;rw[X]at V;obtain rfl:=a2 V;exact⟨st,m,U,r.same e (fun O O O q=>q) Y ⟨ad,aJ,_,rfl,S,Q,X,Z,P,fun O=>aU⟩,f⟩
theorem aS.unmark{s a C d c b}(R:aS B F J s)(e:J.h a=some (.bD C d ⟨c.ctx,b⟩))(Y:b=true):aS B F {J with h:=J.h.set a (.bD C d c)} s:=by subst Y;obtain⟨st,m,X,r,f⟩:=R;obtain⟨_,o,W,ad,aJ,b8,rfl,V,U,T,Z,S,Q⟩:=r.objs _ _ e;exact⟨st,m,X,r.same e (fun O O O q=>q) W ⟨ad,aJ,b8,rfl,V,U,T,Z,S,fun O=>Q rfl⟩,f⟩
theorem aS.vC{s}(R:aS B F J s){a C d c}(e:J.h a=some (.bD C d c))(t:c.b8=true):j7 B s.heap a:=by
 refine R.elim fun st m N r f=>?_;obtain⟨_,o,U,ad,aJ,b8,rfl,M,L,S,Z,K,Q⟩:=r.objs _ _ e;rcases Z with q|⟨T,ba,P,rfl,O,Y,X,W,V⟩
 .exact absurd q<|Q t
 .exact⟨_,ad,T,ba,P,U,rfl,S,O,Y,X,W,V⟩
theorem vD{aq M A E s}{m:Sem aq}{f Q}(h:wpAny M A m Q (fun O O=>False) s):wpAny M A (m.onRaise f) Q E s:=
 wpAny_onRaise (wpAny_mono h (fun O O q=>q) fun O O x=>x.elim)
theorem Cz{M A E s a o Z Q}(Y:s.heap.get? a=some o)(h:wpAny M A (isSubtype o.cls Z) Q E s):wpAny M A (isInstance (.ref a) Z) Q E s:=by exact wpAny_bind<|mP Y h
theorem vE(X:bT F){i n p}{K:St->Prop}{s S}(R:aS B F J s)(W:F.slots[i]?=some (.cA n))(k:∀o,K<|J.un i o):
  wpAny (model B.prog B.w) A (do bindName F.env n .none;unbindBehindTheSuite F.env n p) (fun O U=>dk (fun Y=>aS B F Y U) fun Y=>K Y) S s:=by
 have M:wpAny (model B.prog B.w) A (bindName F.env n .none) (fun O U=>aS B F (J.put i .a5) U) S s:=by refine wpAny_mono ((i5 (E:=fun O O=>False) (v:=.none) (K:=fun Y=>Y=J.put i .a5) X W rfl).run s R) (fun _ U Q=>Q.elim fun Y bC e=>by subst e;exact bC) fun _ _ P=>P.elim fun O O O O O x=>x.elim
 refine wpAny_bind<|wpAny_mono M (fun O s1 I=>?_) fun O O x=>x;refine vD<|I.elim fun st m H r f=>?_;have G:s1.heap.Ns F.env.locals m:=Z X.locals<|(r.fr ⟨F.env,F.L,m,F.act⟩<|.head _).1;have D:m n=some .none:=by
  have e:=qU f W;have C:i<J.l.length:=by have:=bn List.length f;simp(iota:=false)only[length_map]at this;simp only[length_set]at this;exact((aT 0x80881210020448008112) ((List.getElem?_eq_some_iff.mp W).1) this)
  simp only[hj,St.put,List.getElem?_set_self C]at e;rcases q:m n with _|u
  .rw[q]at e;trivial
  .
   rw[q]at e;have:=a2<|a2 e;exact a4<|mx this.symm
 refine wpAny_unbindName_local (X.loc n (mem_of_getElem? W:Slot.cA n∈F.slots)) G D (Z X.kind rfl) fun y u T V=>?_;rw[X.locals]at T V;refine⟨J.un i<|u.map toV,⟨st,_,H,r.frame (fun b o z e=>(V.2 b z).trans e) (Nat.le_of_eq V.1.symm) T,?_⟩,k _⟩;have N:=uH f (mE X) W u;have:(J.put i .a5).l.set i (u.map toV)=(J.un i (u.map toV)).l:=by simp[St.put,St.un]
 rw[this]at N;exact N
theorem vF{X}(V:bT F)(T:b1 F X U j){e s}(x:EPost B F E e s):notedBy (model B.prog B.w) X F.env (fun e W=>cameBackBy (model B.prog B.w) A F.env (EPost B F E) e W) e s:=by refine x.elim fun J a Z R Y k=>?_;obtain rfl:=Z;obtain⟨C,c⟩:=Y;exact j8 V T R c fun W bC t=>vn bC c t k
theorem rk{c K s h}(V:h≠some byPass)(U:codeAny (model B.prog B.w) (A.mark h) c (hn B F A K E) s):wpAny (model B.prog B.w) A (runOwn c F.env h) (fun f W=>dk (fun Y=>aS B F Y W) fun Y=>dk (fun X=>gb f X) fun X=>K X Y) (EPost B F E) s:=by
 refine wpAny_runOwn ?_ V;have e:(fun r W=>match r with|Except.ok f=>(dk (fun Y=>aS B F Y W) (fun Y=>dk (fun X=>gb f X) (fun X=>K X Y)))|.error e=>cameBackBy (model B.prog B.w) A F.env (EPost B F E) e W)=hn B F A K E:=by funext r W;cases r<;>rfl
 exact Z e U
theorem b1.mark(Z:b1 F A U j)(a:Nat):b1 F (A.mark<|some<|.ref a) (some a) j:=⟨rfl,Z.frames,Z.guards,Z.depth,Z.units,Z.len⟩
theorem vG{Z}(X:bT F)(W:b1 F Z U j){b K s}(h:fv B F Z (execs b F.env) K E J)(R:aS B F J s):codeAny (model B.prog B.w) Z (.block b F.env) (hn B F A K E) s:=by refine codeAny_of_tree ?_;show wpAny _ Z (do return Fin.done (<-(execs b F.env).onRaise (fun x=>do noteFrame x F.env;theTreesLotGoes x))) _ _ s;refine wpAny_bind<|wpAny_noted<|wpAny_mono (h.run s R) (fun f V z=>z.elim fun Y bC z=>z.elim fun T S k=>wpAny_pure ⟨Y,bC,T,S,k⟩) fun e V x=>vF X W x
theorem CA{e C d c s Q Y}(R:aS B F J s)(W:J.h e=some (.bD C d c))(q:Q true s):wpAny (model B.prog B.w) A (excMatches (.ref e)<|.ref C) Q Y s:=by
 obtain⟨_,H,M,L,k6,V,U,G,K,I,S,P,E⟩:=R.exc ⟨d,c,W⟩;rw[W]at V;cases V;obtain⟨D,be,aJ,X,O,N,T⟩:=P.at R;have exc:∀{Q:Bool->Shared->Prop}{Y:Value->Shared->Prop},Q true s->wpAny (model B.prog B.w) A (isExcClass (.ref C)) Q Y s:=by intro Q Y q;refine wpAny_bind<|Cu X rfl ?_;exact rj X rfl T<|Z O q
 refine wpAny_bind<|Cz X<|Cv tc_notTuple ?_;refine wpAny_bind<|wpAny_pure ?_;refine wpAny_bind<|wpAny_bind<|wpAny_bind<|exc ?_;refine wpAny_pure<|wpAny_pure ?_;refine wpAny_bind<|mP U ?_;refine wpAny_bind<|wpAny_bind<|wpAny_bind<|rj X rfl T ?_;rw[N];exact wpAny_pure<|wpAny_pure<|wpAny_pure q
def rl(W:bS)(a:Nat)(nm:Option Nat)(h:List cj)(K:c7)(E:KE)(J:St):Prop:=match nm with|none=>wSs W (some a) h K E J|some i=>wSs W (some a) h (fun Z J=>∀o,K Z<|J.un i o) (fun e J=>∀o,E e<|J.un i o)<|J.put i<|.Y a
theorem CB(J:St)(i)(o):(J.un i o).h=J.h:=rfl
def vH(nm:Option Nat)(K:c7):c7:=match nm with|none=>K|some i=>fun Z J=>∀o,K Z<|J.un i o
theorem CC{I a C d c nm name P m p K s}(H:bT F)(G:b1 F A (some a) (10+j))(l:∀i,nm=some i->∃n,name=some n/\F.slots[i]?=some (.cA n))(g:nm=none->name=none)(hh:fw B W F j P m)(R:aS B F J s)(e:J.h a=some (.bD C d c))(k:rl W a nm m K E J)(r1:∀f U X L,aS B F X U->gb f L->vH nm K L X->I (.ok f) U)(r2:∀e U,EPost B F E e U->notedBy (model B.prog B.w) A F.env (fun e U=>I (.error e) U) e U):
  codeAny (model B.prog B.w) A (.handlers (.ref a) [.ExceptHandler none name P p] F.env)
   I s:=by
 refine codeAny_of_tree ?_;show wpAny _ A (do return Fin.done (<-(handleWith (.ref a) F.env [.ExceptHandler none name P p]).onRaise (fun x=>do noteFrame x F.env;theTreesLotGoes x))) _ _ s;refine wpAny_bind<|wpAny_noted ?_;cases nm with
 |none=>obtain rfl:=g rfl;show wpAny _ A (do standAt p;setFlight (.ref a) none;execs P F.env) _ _ s;refine wpAny_bind<|wpAny_standAt<|wpAny_bind<|iu R ⟨d,c,e⟩ fun s1 D O=>?_;exact wpAny_mono ((hh G k).run s1 D) (fun f U z=>z.elim fun X bC z=>z.elim fun L u k'=>wpAny_pure<|r1 _ _ _ _ bC u k') fun e U x=>r2 _ _ x
 |some i=>
  refine(l i rfl).elim fun n Q=>?_;obtain rfl:=Q.1;show wpAny _ A (do
   standAt p
   setFlight (.ref a) none
   bindName F.env n (.ref a)
   match<-(execs P F.env).attempt with
   |.ok f=>pure f
   |.error x=>
    noteFrame x F.env
    holding [x]<|(do
     bindName F.env n .none
     unbindBehindTheSuite F.env n p:Sem Unit).onRaise fun O=>setFlight x none
    PySem.passOn "try.except-as" x F.env) _ _ s
  refine wpAny_bind<|wpAny_standAt<|wpAny_bind<|iu R ⟨d,c,e⟩ fun s1 D O=>?_;have a0:=(i5 (E:=fun O O=>False) (A:=A) (v:=.ref a) (K:=fun X=>X=J.put i (.Y a)) H Q.2 rfl).run s1 D;refine wpAny_bind<|wpAny_mono a0 (fun _ s2 a1=>a1.elim fun a4 R2 e2=>?_) fun _ _ z4=>z4.elim fun O O O O O x=>x.elim;subst e2;refine wpAny_bind<|wpAny_attempt<|wpAny_mono ((hh G k).run s2 R2) (fun f s3 z=>z.elim fun Z t z=>z.elim fun L u r=>?_) fun x s3 x3=>?_;exact wpAny_pure<|wpAny_pure<|r1 _ _ _ _ t u r
  .obtain⟨Z,b,rfl,t,⟨S,g9,V,N⟩,r⟩:=x3;refine wpAny_bind<|j8 H G t ⟨g9,V,N⟩ fun s4 R4 ii=>?_;have a2:=vE (A:=A) (p:=p) (S:=fun O O=>False) (K:=fun X=>∃o,X=({Z with h:=Z.h.set b (.bD S g9 ⟨V.ctx,true⟩)}:St).un i o) H (R4.mark N ii) Q.2 (fun o=>⟨o,rfl⟩);refine wpAny_bind<|wpAny_holding<|vD<|wpAny_mono a2 (fun _ s5 ⟨a5,R5,o,e5⟩=>?_) fun O O x=>x;subst e5;have h5:(({Z with h:=Z.h.set b (.bD S g9 ⟨V.ctx,true⟩)}:St).un i o).h b=some (.bD S g9 ⟨V.ctx,true⟩):=if_pos rfl;have R6:=R5.unmark (c:=V) (b:=true) h5 rfl;have a3:({(({Z with h:=Z.h.set b (.bD S g9 ⟨V.ctx,true⟩)}:St).un i o)with h:=(({Z with h:=Z.h.set b (.bD S g9 ⟨V.ctx,true⟩)}:St).un i o).h.set b (.bD S g9 V)}:St)=Z.un i o:=by simp(iota:=false)only[St.un,St.mk.injEq,true_and];funext y;unfold ar.set;split;rename_i q;subst q;exact N.symm;rfl
   rw[a3]at R6;refine(id<|R5.vC h5 rfl).elim fun dp ad T ba ts M=>?_;refine wpAny_bind<|wpAny_field M.1 M.2 M.3 ?_;rw[if_neg<|of_decide_eq_true rfl];refine wpAny_bind (iu R6 (a:=b) (C:=S) ⟨g9,V,by rw[CB];exact N⟩ fun s7 R7 O=>?_);exact wpAny_throw<|r2 _ _ ⟨Z.un i o,b,rfl,R7,⟨S,g9,V,N⟩,r o⟩
theorem CD{Z a C d c nm name Y X p K s}(V:bT F)(U:b1 F A (some a) (10+j))(T:∀i,nm=some i->∃n,name=some n/\F.slots[i]?=some (.cA n))(S:nm=none->name=none)(P:fw B W F j Y X)(R:aS B F J s)(e:J.h a=some (.bD C d c))(k:rl W a nm X K E J):
  codeAny (model B.prog B.w) A (.handlers (.ref a) [.ExceptHandler none name Y p] F.env)
   (hn B F Z (vH nm K) E) s:=
 CC V U T S P R e k (fun f O Q N bC M L=>⟨Q,bC,N,M,L⟩) fun e O x=>vF V U x
theorem G.vI{t K}(h:∀s,aS B F J s->∀(Q:aq->Shared->Prop)(X:Value->Shared->Prop),(∀a Y Z,aS B F Z Y->K a Z->Q a Y)->(∀e Y,EPost B F E e Y->X e Y)->wpAny (model B.prog B.w) A t Q X s):G B F A t K E J:=
 ⟨fun s R=>h s R _ _ (fun O O Z r k=>⟨Z,r,k⟩) fun O O x=>x⟩
theorem CE{al b e x P N p name nm t r}(bf:dl B)(o:bT F)(hC:ey B al F)(hx:bu B W F (.Name x P) (.k<|.Y W.raised))(C:∀i,nm=some i->∃n,name=some n/\F.slots[i]?=some (.cA n))(y:nm=none->name=none)(a0:fw B W F j b t)(hh:fw B W F j e r):
  dc B W F j (.Try b [.ExceptHandler (some<|.Name x P) name e N] [] [] p) (.f3 t nm r):=by
 intro A U K E J m k;refine G.bind<|G.standAt<|G.vI fun s R Q X q l=>?_;have k':wSs W U t K (fun a J=>isExc J.h a W.raised/\rl W a nm r K E J) J:=by cases nm<;>exact k
 refine wpAny_bind<|wpAny_attempt<|wpAny_mono ((a0 m k').run s R) (fun f s1 z=>z.elim fun Z M z=>z.elim fun T V L=>?_) fun x s1 x1=>?_
 .cases V
  .exact wpAny_pure<|q _ _ _ M ⟨.bL,.next,L⟩
  .exact wpAny_pure<|q _ _ _ M ⟨.dx,.brk,L⟩
  .exact wpAny_pure<|q _ _ _ M ⟨.ay _,.ret,L⟩
 .obtain⟨Z,a,rfl,M,_,⟨d,c,H⟩,L⟩:=x1;refine wpAny_bind<|j8 o m M ⟨d,c,H⟩ fun s2 R2 bA=>?_;refine wpAny_bind<|iu R2 ⟨d,c,H⟩ fun s3 R3 t3=>?_;have u:b1 F (A.mark (some (.ref a))) (some a) (10+j):=m.mark a;have g:wpAny (model B.prog B.w) A (runOwn (.handlers (.ref a) [.ExceptHandler (some (.Name x P)) none [] N] F.env) F.env (some (.ref a))) (fun f s'=>f=.brk/\aS B F Z s') (EPost B F E) s3:=by
   refine wpAny_mono (rk (K:=fun T S=>T=.dx/\S=Z) (by intro q;cases q) ?_) (fun f s' ⟨S,bC,T,V,q1,q2⟩=>?_) fun O O x=>x
   .refine codeAny_of_tree ?_;show wpAny _ (A.mark<|some<|.ref a) (do return Fin.done (<-(handleWith (.ref a) F.env [.ExceptHandler (some<|.Name x P) none [] N]).onRaise (fun x=>do noteFrame x F.env;theTreesLotGoes x))) _ _ s3;refine wpAny_bind<|wpAny_noted ?_;show wpAny _ (A.mark<|some<|.ref a) (do
     standAt N
     let ty<-eval (.Name x P) F.env
     standAt N
     return if<-excMatches (.ref a) ty then Flow.brk else Flow.next) _ _ s3
    refine wpAny_bind<|wpAny_standAt<|wpAny_bind ?_;have a1:cX B F (A.mark (some (.ref a))) (eval (.Name x P) F.env) (fun v S=>v=.Y W.raised/\S=Z) (fun O O=>False) Z:=hx (u.mono<|aF eS) ⟨rfl,rfl⟩;refine wpAny_mono (a1.run s3 R3) (fun v s4 ⟨a2,D,hv,q4⟩=>?_) fun _ _ ⟨_,_,_,_,_,x⟩=>x.elim;subst q4;rw[b7 hv];refine wpAny_bind<|wpAny_standAt<|wpAny_bind<|CA D H ?_;exact wpAny_pure<|wpAny_pure ⟨a2,D,.dx,.brk,rfl,rfl⟩
   .subst q2;subst q1;cases V;exact⟨rfl,bC⟩
  refine wpAny_bind<|wpAny_holding<|wpAny_mono g (fun f s4 a3=>a3.elim fun V D=>?_) l;subst V;refine wpAny_bind<|wpAny_pure ?_;refine wpAny_bind<|wpAny_holding<|wpAny_mono (rk (by intro q;cases q) (CD o u C y hh D H L)) (fun f s5 z=>z.elim fun a5 R5 z=>z.elim fun T V k5=>?_) l;cases nm with
  |none=>obtain rfl:=y rfl;exact wpAny_pure<|q _ _ _ R5 ⟨T,V,k5⟩
  |some i=>refine(C i rfl).elim fun n I=>?_;obtain rfl:=I.1;refine wpAny_bind<|wpAny_holding ?_;refine wpAny_mono (vE (A:=A) (p:=N) (K:=K T) o R5 I.2 k5) (fun _ s6 a4=>a4.elim fun a6 R6 k6=>?_) l;exact wpAny_pure<|q _ _ _ R6 ⟨T,V,k6⟩
variable{ups:List gs}{prot:List (Addr×Obj)}{h:ar}{H H':Heap}
theorem Rel.pick{Y Z}(R:Rel B ups prot h H)(V:∀u∈Y,u∈ups)(U:(Y.map (·.L)).Nodup)(T:∀p∈Z,p∈prot)(S:(Z.map (·.1)).Nodup):Rel B Y Z h H:=
 ⟨R.size,R.keep,R.objs,fun u q=>R.fr u<|V u q,U,S,fun p q=>by have X:=R.pr p<|T p q;refine⟨X.1,X.2.1,X.2.2.1,fun x=>X.2.2.2.1 ?_,X.2.2.2.2⟩;refine(mem_map.mp x).elim fun u W=>?_;exact mem_map.mpr ⟨u,V u W.1,W.2⟩⟩
theorem Rel.vJ{u}(R:Rel B (u::ups) prot h H)(k:∀b x,b≠u.L->H.get? b=some x->H'.get? b=some x)(J:B.h₀.objs.size<=H'.objs.size):Rel B ups prot h H':=by
 have Q:=R.fr u<|.head _;have b8:∀T ba W,H.get? T=some ba->ba.cls=.type "traceback"->ba.data=.fields W->3<W.size->bs fun X S=>cQ (H'.get? T=some X) (X.cls=.type "traceback") (X.data=.fields S) (3<S.size):=fun T ba W O I N G=>by by_cases q:T=u.L;subst q;obtain⟨M,es,ep,V,U,_⟩:=Q.1;rw[O]at V;obtain rfl:=a2 V;rw[N]at U;trivial;exact⟨ba,W,k T _ q O,I,N,G⟩
 have aC:=nodup_cons.mp R.nodup;refine⟨J,fun b x e=>k b x (fun q=>by subst q;exact no<|Q.2.1.symm.trans e)<|R.keep b x e,fun a ao e=>?_,fun v K=>?_,aC.2,R.dG,fun p F=>?_⟩;obtain⟨n,x,E,i⟩:=R.objs a ao e;exact⟨n,x,k a x (fun q=>by subst q;exact no<|Q.2.2.symm.trans e) E,i.on b8⟩;have P:=R.fr v<|.tail _ K;obtain⟨M,es,ep,V,r⟩:=P.1;exact⟨⟨M,es,ep,k _ _ (fun q=>aC.1 (by show u.L∈_;exact aW q<|List.mem_map_of_mem K)) V,r⟩,P.2.1,P.2.2⟩;have Y:=R.pr p F;exact⟨k _ _ (fun q=>Y.2.2.2.1<|Z q<|.head _) Y.1,Y.2.1,Y.2.2.1,fun q=>Y.2.2.2.1<|.tail _ q,Y.2.2.2.2⟩
noncomputable def i8(f:Str->Addr)(names:List (Str×NameKind)):List (Str×Addr):=names.foldl (fun Z p=>if p.2=.free then(p.1,f p.1)::Z else Z) []
theorem CF{W env f}(h:∀p∈W.names,p.2=.free->env.cells.lookup p.1=some (f p.1)):closureFor W env=pure (i8 f W.names):=by
 unfold closureFor i8;have go:∀(l:List (Str×NameKind))(Y:List (Str×Addr)),(∀p∈l,p.2=.free->env.cells.lookup p.1=some (f p.1))->
   (forIn l Y (fun x r=>match x with|(name,kind)=>if(kind==NameKind.free)=true then(do let a<-cellOf env name;pure (ForInStep.yield<|(name,a)::r))else pure (ForInStep.yield r)):Sem _)=pure (l.foldl (fun Y p=>if p.2=.free then(p.1,f p.1)::Y else Y) Y):=by
  intro l;induction l with
  |nil=>intro Y _;rfl
  |cons p l ab=>
   intro Y V;obtain⟨n,k⟩:=p;rw[forIn_cons,foldl_cons];by_cases q:k=.free
   .subst q;have:cellOf env n=pure (f n):=by unfold cellOf;exact Z (V (n,.free) (.head _) rfl) rfl
    simp only[beq_self_eq_true,if_true,this];exact ab _ fun p X=>V p<|.tail _ X
   .have:(k==NameKind.free)=false:=by simpa using q
    simp only[this,Bool.false_eq_true,if_false,q];exact ab _ fun p X=>V p<|.tail _ X
 have:=go W.names [] h;simpa using this
theorem CG{f names n}(h:(n,NameKind.free)∈names):(i8 f names).lookup n=some (f n):=by
 have look:∀(Y:List (Str×Addr)),(∀p∈Y,p.2=f p.1)->n∈Y.map (·.1)->Y.lookup n=some (f n):=by
  intro Y;induction Y with
  |nil=>intro _ h;simp at h
  |cons p Y ab=>
   intro X V;obtain⟨m,a⟩:=p;rw[lookup_cons];by_cases q:n=m
   .subst q;simp(iota:=false)only[beq_self_eq_true];exact a4 (show a=f n from X (n,a) (.head _))
   .have:(n==m)=false:=by simpa using q
    exact Z this<|ab (fun p U=>X p<|.tail _ U)<|by simpa[q]using V
 have go:∀(l:List (Str×NameKind))(Y:List (Str×Addr)),(∀p∈Y,p.2=f p.1)->(n∈Y.map (·.1)\/(n,NameKind.free)∈l)->
   (∀p∈l.foldl (fun Y p=>if p.2=.free then(p.1,f p.1)::Y else Y) Y,p.2=f p.1)/\n∈(l.foldl (fun Y p=>if p.2=.free then(p.1,f p.1)::Y else Y) Y).map (·.1):=by
  intro l;induction l with
  |nil=>intro Y X V;exact⟨X,V.elim id fun q=>by simp at q⟩
  |cons p l ab=>
   intro Y X V;obtain⟨m,k⟩:=p;rw[foldl_cons];by_cases q:k=.free
   .subst q;refine ab _ (fun p U=>?_) ?_
    .rcases bU U with q|q
     .subst q;rfl
     .exact X p q
    .rcases V with q|q
     .exact .inl<|Z map_cons<|.tail _ q
     .rcases bU q with q|q
      ·(injection q with q;subst q);exact .inl<|Z map_cons<|.head _
      .exact .inr q
   .simp(iota:=false)only[q,if_false];refine ab _ X ?_;rcases V with W|W
    .exact .inl W
    .rcases bU W with W|W
     .cases W;exact absurd rfl q
     .exact .inr W
 refine(go names [] (aU)<|.inr h).elim fun a b=>?_;exact look _ a b
theorem rm{aq:Type}:∀{l:List (Str×aq)}{p:Str×aq},(l.map (·.1)).Nodup->p∈l->l.lookup p.1=some p.2:=by
 intro l;induction l with
 |nil=>intros;trivial
 |cons q l ab=>
  intro p aC h;obtain⟨m,a⟩:=q;have Y:=nodup_cons.mp aC;rw[lookup_cons];rcases bU h with e|e
  .subst e;simp
  .have:(p.1==m)=false:=by simp(iota:=false)only[beq_eq_false_iff_ne,ne_eq];rintro rfl;exact Y.1<|mem_map.mpr ⟨p,e,rfl⟩
   exact Z this<|ab Y.2 e
theorem CH{Y env n}:(relabel Y env).names.lookup n=(Y.names.lookup n).map fun k=>if(k==.free&&env.scope.kind==.function&&env.kindOf n==some .cell)then NameKind.cell else k:=by
 have go:∀l:List (Str×NameKind),(l.map fun(n,k)=>if(k==.free&&env.scope.kind==.function&&env.kindOf n==some .cell)then(n,NameKind.cell)else(n,k)).lookup n=(l.lookup n).map fun k=>if(k==.free&&env.scope.kind==.function&&env.kindOf n==some .cell)then NameKind.cell else k:=by
  intro l;induction l with
  |nil=>rfl
  |cons p l ab=>
   obtain⟨m,k⟩:=p;rw[map_cons];dsimp only;by_cases q:n=m;subst q;by_cases c:(k==.free&&env.scope.kind==.function&&env.kindOf n==some .cell)=true;rw[if_pos c,lookup_cons,lookup_cons,beq_self_eq_true];show some NameKind.cell=some (if _ then _ else _);exact a4 (if_pos c).symm;rw[if_neg c,lookup_cons,lookup_cons,beq_self_eq_true];show some k=some (if _ then _ else _);exact a4 (if_neg c).symm
   .have X:(n==m)=false:=by simpa using q
    by_cases c:(k==.free&&env.scope.kind==.function&&env.kindOf m==some .cell)=true;exact Z (if_pos c)<|Z lookup_cons<|Z lookup_cons<|Z X ab;exact Z (if_neg c)<|Z lookup_cons<|Z lookup_cons<|Z X ab
 exact go Y.names
theorem vK{z aI}:cF z (eI z aI) 0=some 0:=(if_pos rfl).trans<|if_pos rfl
theorem oT{x}:∀{l:List (Str×NameKind)}{k i:Nat},cF x l k=some i->k<=i/\((l.filter fun p=>hP p.2).map (·.1))[i-k]?=some x:=by
 intro l;induction l with
 |nil=>intro k i h;exact no h
 |cons pp r ab=>
  obtain⟨n,X⟩:=pp;intro k i h;rw[AQ]at h;rcases q:hP X with _|_
  .
   rw[q]at h;exact Z (filter_cons_of_neg<|by simpa using q)<|ab h
  .
   rw[q]at h;simp(iota:=false)only[if_true]at h;rw[filter_cons_of_pos<|by trivial];split at h
   .rename_i e;obtain rfl:=a2 h;subst e;exact⟨Nat.le_refl _,by simp⟩
   .have Y:=ab h;refine⟨(le_of_succ_le Y.1),?_⟩;rw[show i-k=(i-(k+1))+1 by exact Nat.le_antisymm ((bh 0x1030a04a04904210081081221188102) (bt i<|k+1)<|Nat.sub_add_cancel<|le_of_succ_le Y.1)<|(bh 0x409208c281220210081011024c28102) (bt i k)<|Nat.sub_add_cancel<|(az 0x110240281011024028101) Y.1];simpa using Y.2
theorem vL(x)(names):((eI x names).filter fun p=>hP p.2).map (·.1)=x::frees names:=by
 unfold eI;rw[cons_append,filter_cons_of_pos rfl,filter_append,map_cons,map_append];have W:((frees names).map fun n=>(n,NameKind.cell)).filter (fun p=>hP p.2)=(frees names).map fun n=>(n,NameKind.cell):=by rw[filter_eq_self];intro p Y;refine(mem_map.mp Y).elim fun n X=>?_;obtain rfl:=X.2;rfl
 have V:(names.filter fun p=>decide (p.2=.globalImplicit)).filter (fun p=>hP p.2)=[]:=by rw[filter_eq_nil_iff];intro p Y;have:=(mem_filter.mp Y).2;simp(iota:=false)only[decide_eq_true_eq]at this;exact Z this<|aU
 rw[W,V,List.map_map];simp(iota:=false)only[map_nil,append_nil,List.cons.injEq,true_and];exact List.map_id' _
theorem rn{names n}:n∈frees names↔(n,NameKind.free)∈names:=by
 unfold frees;rw[mem_filterMap];constructor
 .rintro⟨p,Z,e⟩;split at e;rename_i q;obtain rfl:=a2 e;exact aW q Z;exact no e
 .intro h;exact⟨_,h,bn some rfl⟩
theorem CI{names}(aC:(names.map (·.1)).Nodup):(frees names).Nodup:=by
 have:(frees names).Sublist (names.map (·.1)):=by
  unfold frees;induction names with
  |nil=>exact .slnil
  |cons p l ab=>
   rw[filterMap_cons,map_cons];have:=ab (nodup_cons.mp aC).2;by_cases q:p.2=.free
   .simp(iota:=false)only[q,if_true];exact this.cons_cons _
   .simp(iota:=false)only[q,if_false];exact this.cons _
 exact this.nodup aC
def cellAt(F:bM)(al:c2)(n:Str):Addr:=match cF n al.names 0 with|some j=>(match F.slots[j]? with|some (.cx _ a)=>a|_=>0)|none=>0
def gv(F:bM)(al:c2)(x:Str)(Z:Scope)(C:Addr)(m:Str->Option Value)(Y:Addr->Option Value):bM where
 env:=compEnvC Z (i8 (cellAt F al) Z.names) C F.env
 L:=C
 slots:=.cA x::(frees Z.names).map fun n=>.cx n (cellAt F al n)
 ups:=⟨F.env,F.L,m,F.act⟩::F.ups
 prot:=(cellsOf F.slots Y).filter (fun p=>decide (p.1∉(frees Z.names).map (cellAt F al)))++F.prot
 act:=false
 fQ:=F.fQ
set_option genInjectivity false in
structure gc(F:bM)(al:c2)(x:Str)(X:Scope)(bI:aa):Prop where
 kind:X.kind=.function
 aC:(X.names.map (·.1)).Nodup
 mK:X.names.lookup x=some .local
 all:∀p∈X.names,(p.2=.local/\(p.1=x\/p.1=".0"))\/(p.2=.free/\al.names.lookup p.1=some .cell)\/p.2=.globalImplicit
 bI:(frees X.names).map (fun z=>cF z al.names 0)=bI.map some
theorem vM{aq ck:Type}{f}:∀{l:List aq}{r:List ck},cu (l.map f)=some r->l.map f=r.map some
 |[],r,h=>by obtain rfl:=a2 h;rfl
 |a::l,r,h=>by refine(fS h).elim fun b X Y=>?_;obtain rfl:=Y.1;exact Z map_cons<|Z map_cons<|Z Y.2<|Z (vM Y.3) rfl
theorem CJ{al x W}{bI:aa}(h:qY al x W=true)(V:cu ((frees W.names).map fun z=>cF z al.names 0)=some bI):gc F al x W bI:=by
 unfold qY at h;simp only[Bool.and_eq_true,decide_eq_true_eq]at h;refine h.elim fun Z U=>?_;refine Z.elim fun Y T=>?_;refine Y.elim fun X S=>?_;refine X.elim fun R P=>?_;refine⟨R,S,T,fun p Q=>?_,vM V⟩;have:=List.all_eq_true.mp U p Q;simp only[Bool.or_eq_true,Bool.and_eq_true,decide_eq_true_eq]at this;rcases this with(⟨a,b⟩|⟨a,b⟩)|a
 .exact .inl ⟨a,b⟩
 .exact .inr<|.inl ⟨a,b⟩
 .exact .inr<|.inr a
theorem gc.free{al x W bI}(c:gc F al x W bI)(S:bT F)(R:ey B al F){n}(U:n∈frees W.names):
  ∃j,eE (cF n al.names 0=some j) (F.slots[j]?=some (.cx n<|cellAt F al n)) (F.env.kindOf n=some .cell) (F.env.cells.lookup n=some (cellAt F al n)) (W.names.lookup n=some .free):=by
 have T:=rn.mp U;have Q:al.names.lookup n=some .cell:=by
  rcases c.all _ T with q|q|q
  .exact absurd q.1<|aU
  .exact q.2
  .exact absurd q (by trivial)
 have:cF n al.names 0∈bI.map some:=aW c.bI<|List.mem_map_of_mem U;refine(mem_map.mp this).elim fun j Y=>?_;obtain⟨a,V⟩:=R.u4 n j Y.2.symm Q;have e:cellAt F al n=a:=by unfold cellAt;rw[<-Y.2];dsimp only;exact Z V rfl
 have X:=S.cell n a<|mem_of_getElem? V;exact⟨j,Y.2.symm,by rw[e];exact V,X.1,by rw[e];exact X.2,rm c.aC T⟩
theorem gc.inj{al x V bI}(c:gc F al x V bI)(Y:bT F)(U:ey B al F):((frees V.names).map<|cellAt F al).Nodup:=by
 have aC:=CI c.aC;unfold List.Nodup at aC⊢;rw[pairwise_map];refine(Pairwise.and_mem.mp aC).imp fun{n T} Z e=>?_;refine(c.free Y U Z.1).elim fun j X=>?_;have g:=X.2;refine(c.free Y U Z.2.1).elim fun S W=>?_;have R:=W.2;rw[e]at g;have Q:(F.slots.map ew)[j]?=some (.inr (cellAt F al T)):=by simp[g,ew]
 have P:(F.slots.map ew)[S]?=some (.inr (cellAt F al T)):=by simp[R,ew]
 have O:j=S:=(List.getElem?_inj (by simpa using(List.getElem?_eq_some_iff.mp g).1)<|mE Y).mp<|Q.trans P.symm;subst O;exact Z.2.2 (by simpa using(g.symm.trans R))
theorem CK{al x Z bI}(y:d0 B W N al F)(M:N<=91)(c:gc F al x Z bI){C:Addr}(R:B.h₀.objs.size<=C)(m)(Q):d0 B W.down (N+1) ⟨eI x Z.names,al.glob,al.dQ⟩ (gv F al x Z C m Q):=by
 have V:∀n,(gv F al x Z C m Q).env.kindOf n=(Z.names.lookup n).map fun k=>if(k==.free&&F.env.scope.kind==.function&&F.env.kindOf n==some .cell)then NameKind.cell else k:=fun n=>CH;have U:d0 B W N al F:=y;refine⟨y.b,y.inner,⟨c.kind,y.f.frame,?_,(fun q=>by trivial),rfl,y.f.globals,y.f.builtins,fun n T=>?_,fun n a T=>?_,?_,fun u L=>?_⟩,a4 y.n,⟨fun z i h=>?_,fun z i h Y=>?_,fun z i h Y=>?_,fun z v h K=>?_⟩,y.r,y.mM,R,?_,am M,y.gl⟩;obtain⟨e,r,J,I⟩:=y.f.head;refine⟨e,r,?_,I⟩;exact(mv F m).trans J
 .have:n=x:=by
   rcases bU T with q|q
   .cases q;rfl
   .obtain⟨_,_,q⟩:=mem_map.mp q;trivial
  subst this;rw[V,c.mK];rfl
 .rcases bU T with q|q
  .trivial
  .obtain⟨w,X,q⟩:=mem_map.mp q;cases q;obtain⟨j,_,_,H,t,G⟩:=c.free y.f y.c X;refine⟨?_,CG<|rn.mp X⟩;rw[V,G,Option.map_some,y.f.kind,H];rfl
 .show((Slot.cA x::(frees Z.names).map fun n=>Slot.cx n<|cellAt F al n).map _).Nodup;rw[map_cons,List.map_map,nodup_cons];constructor;intro q;obtain⟨_,_,q⟩:=mem_map.mp q;trivial;have e:=c.inj y.f y.c;unfold List.Nodup at e⊢;rw[pairwise_map]at e⊢;exact e.imp fun h q=>h (by simpa using q)
 .rcases bU L with q|q
  .subst q;intro E;exact⟨by rw[y.f.kind];exact aU,aW (y.f.self E) y.f.frame⟩
  .exact y.f.ups u q
 .refine(oT h).elim fun O g=>?_;rw[vL,Nat.sub_zero]at g;show∃aJ,(Slot.cA x::(frees Z.names).map fun n=>Slot.cx n<|cellAt F al n)[i]?=some aJ/\aJ.name=z;cases i with|zero=>simp at g;subst g;exact⟨.cA x,rfl,rfl⟩|succ i=>simp at g;exact⟨.cx z<|cellAt F al z,by simp[g],rfl⟩
 .refine(oT h).elim fun O g=>?_;have D:z=x:=by
   have S:=mem_of_lookup Y;rcases mem_append.mp S with q|q
   .rcases bU q with q|q
    .cases q;rfl
    .obtain⟨_,_,q⟩:=mem_map.mp q;cases q
   .have:=(mem_filter.mp q).2;trivial
  subst D;have A:cF z (eI z Z.names) 0=some 0:=vK;rw[A]at h;obtain rfl:=a2 h;rfl
 .refine(oT h).elim fun O g=>?_;rw[vL,Nat.sub_zero]at g;cases i with
  |zero=>
   simp at g;subst g;have:(eI x Z.names).lookup x=some .local:=by simp[eI,lookup_cons]
   rw[this]at Y;trivial
  |succ i=>simp at g;exact⟨cellAt F al z,by show(Slot.cA x::(frees Z.names).map fun n=>Slot.cx n<|cellAt F al n)[i+1]?=_;simp[g]⟩
 .unfold mF at h;have Y:(eI x Z.names).lookup z=some .globalImplicit:=by simpa using h
  have S:=mem_of_lookup Y;have P:(z,NameKind.globalImplicit)∈Z.names:=by
   rcases mem_append.mp S with q|q
   .rcases bU q with q|q
    .cases q
    .obtain⟨_,_,q⟩:=mem_map.mp q;cases q
   .exact(mem_filter.mp q).1
  refine⟨?_,y.gl z v K⟩;rw[V,rm c.aC P];rfl
 .exact⟨⟨y.inner.ax.1⟩,fun O O O O k=>k.elim,y.inner.attr,y.inner.ec,y.inner.k4,y.inner.aZ,y.inner.e9⟩
noncomputable abbrev lobj(items:Array Value)(ep:Nat):Obj:={cls:=.type "list",dict:=none,data:=.seq items ep}
theorem CL{x P s Q N}(h:hh J.h P (toV x))(R:aS B F J s)(q:∀xs bb,P xs bb->∀X Y o T,(∀Z:bM,B.h₀.objs.size<=Z.L->hT B Z X Y xs bb)->
   (∀{Z:bM}{W:St}{i:Nat}{o:Obj}{A:Around}{E:Value->Shared->Prop}{Q:Value->Shared->Prop}{s:Shared},Y i o->aS B (Z.guard X o) W s->Q (.ref X) s->wpAny (model B.prog B.w) A (pyIter<|.ref X) Q E s)->
   Y 0 o->aS B (F.guard X o) J T->dy bb J.h->Q (.ref X) T):wpAny (model B.prog B.w) A (pyIter x) Q N s:=by
 generalize S:toV x=v at h;cases h with
 |@list a y U p=>obtain rfl:=b7 S;refine(R.list U).elim fun items ep M=>?_;refine wpAny_pyIter_list (fc M.1)<|q _ _ p _ _ _ _ (fun Z V=>vt (l:=a) V) ?_ ⟨rfl,rfl⟩ (R.ga _ (by simp) rfl) U;intro Z W i o A E Q s aj bC k;exact wpAny_pyIter_listiter ⟨o,bC.got.1,aj.1,aj.2⟩ k
 |@range a lo aj U p=>
  obtain rfl:=b7 S;refine(id R).elim fun O m j r O=>?_;obtain⟨_,o,K,⟨t,u,v,rfl⟩,I,H,G,D⟩:=r.objs _ _ U;have C:=ri (st:=1) (by decide) I H G D (by decide) (by decide);refine wpAny_pyIter_range K C.1 ?_;have z:Builtin.Range.rangeSize lo aj 1=gN lo aj:=by unfold Builtin.Range.rangeSize gN;simp only[show(1:Int)>0 by decide,if_true,Int.ediv_one];exact tW
  rw[z];refine q _ _ p _ _ _ _ (fun Z V=>rg (lo:=lo) (st:=1) (n:=gN lo aj) (fun i=>?_) V) ?_ ⟨zero_le _,?_⟩ (R.ga _ (aU) rfl) trivial
  .rw[vu];simp
  .intro Z W i o A E Q s aj bC k;exact wpAny_pyIter_rangeiter (aj.2▸bC.got.1) k
  .simp[oR,rawInt]
theorem vN{a b o p s}(R:aS B ((F.guard a o).guard b p) J s):aS B ((F.guard b p).guard a o) J s:=by
 refine R.elim fun st m Y r f=>?_;refine⟨st,m,Y,r.pick (fun O h=>h) r.nodup (fun q Z=>?_) ?_,f⟩
 .simp only[bM.guard,mem_append,mem_cons]at Z⊢;rcases Z with q|q|q|q
  .exact .inl q
  .exact .inr<|.inr<|.inl q
  .exact .inr<|.inl q
  .exact .inr<|.inr<|.inr q
 .have:=r.dG;refine(Perm.nodup_iff<|List.Perm.map _ ?_).mp this;exact Perm.append_left _ (List.Perm.swap ..)
theorem aS.CM{a o o' s Z}(R:aS B (F.guard a o) J s)(x:Heap.SameBut a s.heap Z)(g:Z.get? a=some o')(X:o'.cls≠.type "traceback"):aS B (F.guard a o') J {s with heap:=Z}:=by refine R.elim fun st m Y r f=>?_;exact⟨st,m,Y,Rel.guard (pre:=cellsOf F.slots Y) (post:=F.prot) r (fun b V W e=>(x.2 b W).trans e) (Nat.le_of_eq x.1.symm) g X,f⟩
def CompEnd(B:bY)(F:bM)(cz:Addr)(l:List (Option V))(K:List V->ar->Prop):Result->Shared->Prop
 |.ok _,s=>er fun J items ep o=>aS B (F.guard cz<|lobj items ep) ⟨o::l,J⟩ s/\K (bo items.toList) J
 |.error _,_=>False
theorem dead{Z}{E:Value->Shared->Prop}{e s}(z:EPost B Z (fun O O=>False) e s):E e s:=z.elim fun O O O O O z=>z.elim
section
variable{al:c2}{bX:Expr}{cB:List Expr}{n:Nat}{e:a6}{be:Option a6}{cz:Addr}{v:V}{ad:List V}{bb:Option (Nat×dM)}{l:List (Option V)}{K:List V->ar->Prop}{items:Array Value}{mQ:Shared->Prop}{mR:Value->Shared->Prop}{s:Shared}{p:Addr×Obj}
theorem vO{J ep}(y:d0 B W N al F)(T:b1 ((F.guard cz<|lobj items ep).guard p.1 p.2) A none 10)(S:cp al n bX=some e)(R:aS B ((F.guard cz<|lobj items ep).guard p.1 p.2) J s)(k:wE W none e (fun y J=>J.l=some v::l/\dy bb J.h/\(bo items.toList).length<=16000000/\gO W e be bb l ad (bo items.toList++[y]) K J.h) (fun O O=>False) J)(Q:∀{items:Array Value}{ep:Nat}{h:ar}{s:Shared},aS B ((F.guard cz<|lobj items ep).guard p.1 p.2) ⟨some v::l,h⟩ s->dy bb h->gO W e be bb l ad (bo items.toList) K h->mQ s):
  wpAny (model B.prog B.w) A (eval bX F.env) (fun x s=>wpAny (model B.prog B.w) A (call (.builtin "list.append") [.ref cz,x]) (fun O s=>mQ s) mR s) mR s:=by
 refine wpAny_mono (((ef n ((y.guard _ _).guard _ _:d0 B W N al ((F.guard cz<|lobj items ep).guard p.1 p.2)) S).1 T k).run s R) (fun u L z=>z.elim fun Y V X=>?_) fun O O x=>dead x;refine wpAny_list_append_plain (items:=items) (hsz:=?_) ⟨ep,?_⟩ fun I z P=>z.elim fun U M=>Q (items:=items.push u) (ep:=U) (h:=Y.h) ?_ X.2.1 ?_;exact V.elim fun O m H r O=>(r.pr (cz,lobj items ep)<|mem_append_right _<|.tail _<|.head _).1;have q:=(vN<|(vN V).CM P M<|aU);exact X.1▸((show Y=⟨Y.l,Y.h⟩ from rfl)▸q)
 .exact Z (show bo (items.push u).toList=bo items.toList++[toV u] by simp[bo]) X.2.2.2
 .skip;have:(bo items.toList).length=items.size:=length_map ..;exact((az 0x200409fa12001820204200000064888102) X.2.2.1 this)
theorem CN{h ep}(y:d0 B W N al F)(X:b1 ((F.guard cz<|lobj items ep).guard p.1 p.2) A none 10)(S:cp al n bX=some e)(aj:(cB=[]/\be=none)\/bs fun c V=>ct (cB=[c]) (be=some V)<|cp al n c=some V)(R:aS B ((F.guard cz<|lobj items ep).guard p.1 p.2) ⟨some v::l,h⟩ s)(k:gO W e be bb l (v::ad) (bo items.toList) K h)(U:∀{items:Array Value}{ep:Nat}{h:ar}{s:Shared},aS B ((F.guard cz<|lobj items ep).guard p.1 p.2) ⟨some v::l,h⟩ s->dy bb h->gO W e be bb l ad (bo items.toList) K h->mQ s):
  wpAny (model B.prog B.w) A (forIn cB true fun c r=>if r=true then do let ok<-isTrue c F.env (eval c F.env);pure (ForInStep.yield ok)else pure (ForInStep.yield r)) (fun ok s=>if ok=true then wpAny (model B.prog B.w) A (eval bX F.env) (fun x s=>wpAny (model B.prog B.w) A (call (.builtin "list.append") [.ref cz,x]) (fun O s=>mQ s) mR s) mR s else mQ s) mR s:=by
 rcases aj with aj|aj
 .obtain⟨rfl,rfl⟩:=aj;exact wpAny_tests_nil<|vO y X S R k U
 .refine aj.elim fun c V z=>?_;obtain rfl:=z.1;obtain rfl:=z.2;refine wpAny_tests_one<|wpAny_mono (((ef n ((y.guard _ _).guard _ _:d0 B W N al ((F.guard cz<|lobj items ep).guard p.1 p.2)) z.3).2 X k).run s R) (fun t s3 z=>z.elim fun Z T Y=>?_) fun O O x=>dead x;cases t with|true=>exact vO y X S T Y U|false=>rw[show Z=⟨Z.l,Z.h⟩ from rfl,Y.1]at T;exact U T Y.2.1 Y.2.2
end
theorem CO{al W F}(y:d0 B W N al F){bX T x M cB I pos n e be U cz X ad bb l K}(S:b1 F A none 10)(H:cF x al.names 0=some 0)(G:cp al n bX=some e)(aj:(cB=[]/\be=none)\/bs fun c Q=>ct (cB=[c]) (be=some Q)<|cp al n c=some Q)(w:∀P:bM,B.h₀.objs.size<=P.L->hT B P U X ad bb){s o V h}(E:X 0 o)(R:aS B ((F.guard cz<|lobj #[] 0).guard U o) ⟨V::l,h⟩ s)(D:dy bb h)(k:gO W e be bb l ad [] K h):
  codeAny (model B.prog B.w) A (.compLoop (.ListComp bX [⟨.Name x M,T,cB,0⟩] I pos) 0 (.ref U) (.ref cz) F.env) (CompEnd B F cz l K) s:=by
 refine codeAny_compLoop_tests (fun m s=>ha fun i V h o items ep=>fI (m=ad.length-i) (i<=ad.length) (X i o) (aS B ((F.guard cz<|lobj items ep).guard U o) ⟨V::l,h⟩ s) (dy bb h)<|gO W e be bb l (ad.drop i) (bo items.toList) K h)
  (fun m s C=>C.elim fun i V h o items ep z=>?_) ad.length ⟨0,V,h,o,#[],0,rfl,zero_le _,E,R,D,k⟩
 have k:=z.6;by_cases Z:i<ad.length;refine wpAny_mono ((w (F.guard cz<|lobj items ep) y.lo).item (List.getElem?_eq_getElem Z) z.3 z.4 z.5) (fun r s1 Y=>Y.elim fun u o' Y=>?_) fun O O x=>x;obtain rfl:=Y.1;rw[drop_eq_getElem_cons Z]at k;exact wpAny_mono ((vz (((y.guard _ _).guard _ _).f) ((y.guard _ _).guard _ _).c H (K:=fun J=>J=⟨some ad[i]::l,h⟩) ((S.guard _ _).guard _ _)<|by exact a4 Y.2).run s1 Y.4) (fun O s2 v=>v.elim fun j t q=>CN (p:=(U,o')) y ((S.guard _ _).guard _ _) G aj (q▸t) k fun R st k=>⟨ad.length-(i+1),((bV 0x840930902812302110810100204c0208113) z.1 (bt ad.length i)<|bz Z),i+1,_,_,o',_,_,rfl,Z,Y.3,R,st,k⟩) fun O O x=>dead x;refine wpAny_mono ((w (F.guard cz<|lobj items ep) y.lo).fin S.handled (List.getElem?_eq_none<|Nat.le_of_not_lt Z) z.3 z.4 z.5) (fun r s1 Y=>?_) fun O O x=>x;obtain rfl:=Y.1;rw[drop_of_length_le<|Nat.le_of_not_lt Z]at k;exact⟨h,items,ep,V,Y.2,k⟩
theorem Rel.enter(R:Rel B ups prot h H){env act m H' o}(U:H'.Ns H.objs.size m)(W:Heap.SameBut H.objs.size (H.push o) H'):Rel B (⟨env,H.objs.size,m,act⟩::ups) prot h H':=by
 have bC:=R.grow (fun b x e=>W.extBut b x (ne_of_lt<|Heap.lt_size e) (Heap.get?_push_of_some _ e):∀b x,H.get? b=some x->H'.get? b=some x) (by have T:=R.size;have:=W.1;rw[Heap.size_push]at this;exact this.symm▸le_succ_of_le T);refine⟨bC.size,bC.keep,bC.objs,fun u S=>?_,?_,bC.dG,fun p V=>?_⟩
 .rcases bU S with q|q
  .subst q;exact⟨U,R.qI,R.fresh⟩
  .exact bC.fr u q
 .skip;refine nodup_cons.mpr ⟨fun q=>?_,R.nodup⟩;refine(mem_map.mp q).elim fun u X=>?_;exact absurd (R.qJ X.1)<|Z X.2<|Nat.lt_irrefl _
 .have Y:=bC.pr p V;refine⟨Y.1,Y.2.1,Y.2.2.1,fun q=>?_,Y.2.2.2.2⟩;rcases bU q with q|q
  .exact absurd (R.qK V)<|Z q<|Nat.lt_irrefl _
  .exact Y.2.2.2.1 q
theorem CP(aJ)(Y Z):(cellsOf aJ Y).map (·.1)=(cellsOf aJ Z).map (·.1):=by
 unfold cellsOf;induction aJ with
 |nil=>rfl
 |cons s r ab=>cases s<;>simp[ab]
theorem CQ{aJ Z p}(h:p∈cellsOf aJ Z):∃n,Slot.cx n p.1∈aJ/\p.2=fb (Z p.1):=by
 unfold cellsOf at h;obtain⟨s,Y,e⟩:=mem_filterMap.mp h;cases s with
 |cA n=>exact no e
 |cx n a=>obtain rfl:=a2 e;exact⟨n,Y,rfl⟩
theorem ro(F)(al)(x)(X)(C)(m)(W Y):cellsOf (gv F al x X C m W).slots Y=(frees X.names).map fun n=>(cellAt F al n,fb<|Y<|cellAt F al n):=by
 show cellsOf (Slot.cA x::(frees X.names).map fun n=>Slot.cx n<|cellAt F al n) Y=_;unfold cellsOf;rw[filterMap_cons];dsimp only;generalize frees X.names=l;induction l with
 |nil=>rfl
 |cons n l ab=>exact Z filterMap_cons<|Z map_cons<|aW ab rfl
theorem gc.vals{al x X bI}(c:gc F al x X bI)(V:bT F)(U:ey B al F){m W l}(f:Fits F.slots m W l):
  (bI.map fun j=>(l[j]?).join)=(frees X.names).map fun n=>(W<|cellAt F al n).map toV:=by
 have e:(bI.map fun j=>(l[j]?).join)=(bI.map some).map fun o:Option Nat=>match o with|some j=>(l[j]?).join|none=>none:=Z List.map_map rfl
 rw[e,<-c.bI,List.map_map];apply map_congr_left;intro n T;refine(c.free V U T).elim fun j Y=>?_;have:=qU f Y.2;simp only[Function.comp,Y.1,this,Option.join,hj];rfl
theorem CR{al x X bI}(c:gc F al x X bI)(R:bT F)(Q:ey B al F){a b P dp o s L n m Y}(st:Still B s)(r:Rel B (F.up m) (cellsOf F.slots Y++(a,P)::(b,dp)::F.prot) J.h s.heap)(f:Fits F.slots m Y J.l)(W:L.Ns s.heap.objs.size (fun O=>none))(E:Heap.SameBut s.heap.objs.size (s.heap.push o) L):
  aS B (((gv F al x X s.heap.objs.size m Y).guard b dp).guard a P) ⟨none::(bI.map fun j=>(J.l[j]?).join),J.h⟩ {s with heap:=L,toks:=n}:=by
 have H:=r.enter (env:=compEnvC X (i8 (cellAt F al) X.names) s.heap.objs.size F.env) (act:=false) W E;refine⟨st,_,Y,H.pick (fun O q=>q) H.nodup (fun p K=>?_) ?_,?_⟩
 .show p∈cellsOf F.slots Y++_;have M:p∈cellsOf (gv F al x X s.heap.objs.size m Y).slots Y++((a,P)::(b,dp)::((cellsOf F.slots Y).filter (fun p=>decide (p.1∉(frees X.names).map (cellAt F al)))++F.prot)):=K;rw[ro]at M;rcases mem_append.mp M with q|q
  .obtain⟨n,W,rfl⟩:=mem_map.mp q;obtain⟨j,_,I,_⟩:=c.free R Q W;exact mem_append_left _<|mD<|mem_of_getElem? I
  .rcases bU q with q|q
   .exact mem_append_right _<|Z q<|.head _
   .rcases bU q with q|q
    .exact mem_append_right _<|Z q<|.tail _<|.head _
    .rcases mem_append.mp q with q|q
     .exact mem_append_left _ (mem_filter.mp q).1
     .exact mem_append_right _<|.tail _<|.tail _ q
 .show((cellsOf (gv F al x X s.heap.objs.size m Y).slots Y++((a,P)::(b,dp)::((cellsOf F.slots Y).filter (fun p=>decide (p.1∉(frees X.names).map (cellAt F al)))++F.prot))).map (·.1)).Nodup;rw[ro,map_append,List.map_map];have aC:=r.dG;rw[map_append,map_cons,map_cons]at aC;obtain⟨D,C,T⟩:=nodup_append.mp aC;obtain⟨G,A⟩:=nodup_cons.mp C;obtain⟨w,v⟩:=nodup_cons.mp A;have U:∀n∈frees X.names,cellAt F al n∈(cellsOf F.slots Y).map (·.1):=fun n W=>by obtain⟨j,_,I,_⟩:=c.free R Q W;exact List.mem_map_of_mem (f:=fun p:Addr×Obj=>p.1)<|mD (Z:=Y)<|mem_of_getElem? I
  have V:∀y∈((cellsOf F.slots Y).filter (fun p=>decide (p.1∉(frees X.names).map (cellAt F al)))).map (·.1),y∈(cellsOf F.slots Y).map (·.1)/\y∉(frees X.names).map (cellAt F al):=fun y S=>by obtain⟨p,K,rfl⟩:=mem_map.mp S;obtain⟨u,t⟩:=mem_filter.mp K;exact⟨List.mem_map_of_mem u,by simpa using t⟩
  refine nodup_append.mpr ⟨c.inj R Q,?_,?_⟩
  .rw[map_cons,map_cons,map_append];refine nodup_cons.mpr ⟨fun q=>?_,nodup_cons.mpr ⟨fun q=>?_,nodup_append.mpr ⟨(filter_sublist.map _).nodup D,v,fun y S z N=>T y (V y S).1 z<|.tail _<|.tail _ N⟩⟩⟩
   .rcases bU q with q|q
    .exact G<|Z q<|.head _
    .rcases mem_append.mp q with q|q
     .exact T _ (V _ q).1 _ (.head _) rfl
     .exact G<|.tail _ q
   .rcases mem_append.mp q with q|q
    .exact T _ (V _ q).1 _ (.tail _<|.head _) rfl
    .exact w q
  .intro y S z N e;subst e;obtain⟨n,W,rfl⟩:=mem_map.mp S;rw[map_cons,map_cons,map_append]at N;rcases bU N with q|q
   .exact T _ (U n W) _ (.head _) q
   .rcases bU q with q|q
    .exact T _ (U n W) _ (.tail _<|.head _) q
    .rcases mem_append.mp q with q|q
     .exact(V _ q).2<|List.mem_map_of_mem W
     .exact T _ (U n W) _ (.tail _<|.tail _ q) rfl
 .show Fits (Slot.cA x::(frees X.names).map fun n=>Slot.cx n<|cellAt F al n) _ Y _;unfold Fits;exact Z map_cons<|Z List.map_map<|Z (c.vals R Q f) rfl
theorem CS{aJ m Y Z l}(f:Fits aJ m Y l)(h:∀n a,Slot.cx n a∈aJ->(Z a).map toV=(Y a).map toV):Fits aJ m Z l:=by
 subst f;apply map_congr_left;intro s X;cases s with
 |cA n=>rfl
 |cx n a=>exact h n a X
theorem CT{al x Y bI}(c:gc F al x Y bI)(G:bT F)(E:ey B al F){C cz:Addr}{items ep m X l o h s}(f:Fits F.slots m X l)(D:((cellsOf F.slots X++F.prot).map (·.1)).Nodup)(M:B.h₀.objs.size<=cz)(R:aS B ((gv F al x Y C m X).guard cz<|lobj items ep) ⟨o::(bI.map fun j=>(l[j]?).join),h⟩ s):
  Still B s/\h cz=none/\bs fun U a8=>Fits F.slots m U l/\Rel B (⟨compEnvC Y (i8 (cellAt F al) Y.names) C F.env,C,a8,false⟩::F.up m) (cellsOf F.slots U++F.prot) (h.set cz<|.ag<|bo items.toList) s.heap:=by
 refine R.elim fun st P W r L=>?_;have K:h cz=none:=(r.pr (cz,lobj items ep) cw).2.2.1;have J:Rel B (⟨compEnvC Y (i8 (cellAt F al) Y.names) C F.env,C,P,false⟩::F.up m) (cellsOf (gv F al x Y C m X).slots W++((cellsOf F.slots X).filter (fun p=>decide (p.1∉(frees Y.names).map (cellAt F al)))++F.prot)) (h.set cz (.ag (bo items.toList))) s.heap:=
  Rel.adopt (pre:=cellsOf (gv F al x Y C m X).slots W) (post:=(cellsOf F.slots X).filter (fun p=>decide (p.1∉(frees Y.names).map (cellAt F al)))++F.prot) (ao:=.ag<|bo items.toList) r M ⟨items,ep,rfl,rfl⟩
 have A:∀n∈frees Y.names,(W (cellAt F al n)).map toV=(X (cellAt F al n)).map toV:=by rw[c.vals G E f]at L;have V:Fits (Slot.cA x::(frees Y.names).map fun n=>Slot.cx n (cellAt F al n)) P W (o::(frees Y.names).map fun n=>(X (cellAt F al n)).map toV):=L;unfold Fits at V;rw[map_cons,List.map_map]at V;have:=(List.cons.inj V).2;exact map_inj_left.mp this
 refine⟨st,K,fun a=>if a∈(frees Y.names).map (cellAt F al)then W a else X a,P,CS f fun n a O=>?_,J.pick (fun O q=>q) J.nodup (fun p z=>?_) ?_⟩
 .split;rename_i q;refine(mem_map.mp q).elim fun N T=>?_;obtain rfl:=T.2;exact A N T.1;rfl
 .rcases mem_append.mp z with q|q
  .refine(CQ q).elim fun n S=>?_;have I:=S.1;have H:=S.2;obtain⟨a,y⟩:=p;dsimp only at I H;rw[H];by_cases g:a∈(frees Y.names).map (cellAt F al);refine mem_append_left _ ?_;rw[if_pos g,ro];refine(mem_map.mp g).elim fun N Q=>?_;obtain rfl:=Q.2;exact mem_map.mpr ⟨N,Q.1,rfl⟩;refine mem_append_right _<|mem_append_left _ ?_;exact Z (if_neg g)<|mem_filter.mpr ⟨mD I,by simpa using g⟩
  .exact mem_append_right _<|mem_append_right _ q
 .exact Z map_append<|Z (CP _ _ X)<|aW map_append D
theorem vP{al}(y:d0 B W N al F)(hN:N<=91){bX Z x H cB X pos n e im bI be M Q s G}(c:gc F al x X bI)(L:b1 F A none (10+j))(a1:bu B W F Z im)(D:∀a b c,Z≠.Set a b c)(he:cp ⟨eI x X.names,al.glob,al.dQ⟩ n bX=some e)(aj:(cB=[]/\be=none)\/bs fun c c'=>ct (cB=[c]) (be=some c')<|cp ⟨eI x X.names,al.glob,al.dQ⟩ n c=some c')(k:wE W none im (fun v J=>hh J.h (fun xs bb=>gO W.down e be bb (bI.map fun j=>(J.l[j]?).join) xs [] (fun u h=>hM (.ag u) G ⟨J.l,h⟩) J.h) v) E J)(hK:∀cz J,G (.Y cz) J->∀m U C t a8 T,Still B T->Fits F.slots m U J.l->Rel B (⟨t,C,a8,false⟩::F.up m) (cellsOf F.slots U++F.prot) J.h T.heap->compPost (model B.prog B.w) A (EPost B F E) M Q (.ref cz) C (.ok .next) T)(R:aS B F J s):
  wpAny (model B.prog B.w) A (comprehension (.ListComp bX [⟨.Name x H,Z,cB,0⟩] X pos) X F.env Z.pos (newList []) false (eval Z F.env) M) Q (EPost B F E) s:=by
 have a2:∀p∈X.names,p.2=.free->F.env.cells.lookup p.1=some (cellAt F al p.1):=fun p P hf=>by obtain⟨_,_,_,_,g,_⟩:=c.free y.f y.c<|rn.mpr<|aW hf P;exact g
 have I:∀p∈X.names,p.2≠.cell:=fun p P q=>by
  rcases c.all p P with h|h|h
  .rw[h.1]at q;trivial
  .rw[h.1]at q;trivial
  .rw[h]at q;trivial
 refine wpAny_comprehension_free (cl:=i8 (cellAt F al) X.names) rfl (vs D) (CF a2) c.kind (fun p P hl=>aW hl<|rm c.aC P)<|wpAny_mono ((a1 (L.mono<|aF eS) k).run s R) (fun xv s1 z7=>z7.elim fun S R1 i=>?_) fun O O z=>z;refine CL i R1 fun xs bb i d a0 o s2 w self h0 R2 hs=>?_;refine wpAny_newObj_type ?_<|zero_le 16777216;refine(id R2).elim fun a3 m U r2 f2=>?_;have r3:=Rel.ga (pre:=cellsOf F.slots U) (post:=(d,o)::F.prot) r2 (lobj #[] 0) (aU) rfl;refine wpAny_newFunctionEnv I (by intro _ hy;simp at hy) (fun h' a4 a5=>?_) c.kind;have r4:Rel B (F.up m) (cellsOf F.slots U++(d,o)::(s2.heap.objs.size,lobj #[] 0)::F.prot) S.h (s2.heap.push (lobj #[] 0)):=by
  refine r3.pick (fun O q=>q) r3.nodup (fun p P=>?_) ?_
  .simp only[mem_append,mem_cons]at P⊢;rcases P with q|q|q|q
   .exact .inl q
   .exact .inr<|.inr<|.inl q
   .exact .inr<|.inl q
   .exact .inr<|.inr<|.inr q
  .refine(Perm.nodup_iff<|List.Perm.map _ ?_).mp r3.dG;exact Perm.append_left _ (List.Perm.swap ..)
 have R5:=CR (n:=s2.toks+([]:List (Str×Value)).length) c y.f y.c (s:={s2 with heap:=s2.heap.push (lobj #[] 0)}) a3 r4 f2 a4 a5;have a6:b1 (gv F al x X (s2.heap.push (lobj #[] 0)).objs.size m U) A none 10:=by refine⟨L.handled,?_,L.guards,?_,?_,?_⟩;rw[L.frames];congr 1;exact(mv F m).symm;have:=L.depth;exact((az 0x204885027901250081081302442502790125008101) this);have:=L.units;exact((aT 0x812417819e4082845042802810813024825e0679020aa084028101) this);have:=y.n;exact((az 0x40910a04ad87202042f873024428102) hN this)
 have a7:cF x (eI x X.names) 0=some 0:=vK;have go:=fun(o':Obj)(o0:Option V)(T:Shared)(a9:a0 0 o')(Rr:aS B (((gv F al x X (s2.heap.push (lobj #[] 0)).objs.size m U).guard s2.heap.objs.size (lobj #[] 0)).guard d o') ⟨o0::(bI.map fun j=>(S.l[j]?).join),S.h⟩ T)=>CO (bX:=bX) (T:=Z) (M:=H) (I:=X) (pos:=pos) (CK y hN c (r4.size:B.h₀.objs.size<=(s2.heap.push<|lobj #[] 0).objs.size) m U) a6 a7 he aj w a9 Rr hs i;have fin:∀r T,CompEnd B (gv F al x X (s2.heap.push (lobj #[] 0)).objs.size m U) s2.heap.objs.size (bI.map fun j=>(S.l[j]?).join) (fun u h=>hM (.ag u) G ⟨S.l,h⟩) r T->compPost (model B.prog B.w) A (EPost B F E) M Q (.ref s2.heap.objs.size) (s2.heap.push (lobj #[] 0)).objs.size r T:=by
  intro r T z;cases r with
  |error e=>exact z.elim
  |ok fl=>refine z.elim fun h3 items ep o3 K=>?_;obtain⟨aa,ab,ac,a8,f6,r6⟩:=CT c y.f y.c f2 (by have:=r4.dG;refine List.Nodup.sublist (List.Sublist.map _ ?_) this;exact Sublist.append_left (List.Sublist.cons _ (sublist_cons_self ..)) _) r2.size K.1;have:=hK _ _ (K.2 _ ab) m ac (s2.heap.push<|lobj #[] 0).objs.size _ a8 T aa f6 r6;cases M<;>cases fl<;>exact this
 refine codeAny_mono (R:=CompEnd B (gv F al x X (s2.heap.push<|lobj #[] 0).objs.size m U) s2.heap.objs.size (bI.map fun j=>(S.l[j]?).join) _) ?_ fin;exact codeAny_compStart_list (go o _ _ h0 R5)<|self h0 R5<|go o _ _ h0 R5
theorem bT.more(Z:bT F){u}(X:u.act=false):bT {F with ups:=F.ups++[u]}:=by
 refine⟨Z.kind,Z.frame,?_,Z.self,Z.locals,Z.globals,Z.builtins,Z.loc,Z.cell,Z.nodup,fun v W=>?_⟩
 .refine Z.head.elim fun e r Y=>?_;refine⟨e,r,?_,Y.2⟩;rw[<-Y.1];unfold bM.envs bM.up i4;rw[<-cons_append,filter_append];simp[X]
 .rcases mem_append.mp W with q|q
  .exact Z.ups v q
  .rw[mem_singleton.mp q,X];intro h;trivial
theorem CU{al}(y:d0 B W N al F)(hN:N<=91){bX X x z px V cB T pos sp n i e im bI be}(c:gc F al x T bI)(a0:bu B W F X im)(g:∀a b c,X≠.Set a b c)(he:cp ⟨eI x T.names,al.glob,al.dQ⟩ n bX=some e)(aj:(cB=[]/\be=none)\/bs fun c c'=>ct (cB=[c]) (be=some c')<|cp ⟨eI x T.names,al.glob,al.dQ⟩ n c=some c')(hz:cF z al.names 0=some i)(hl:al.names.lookup z=some .local)(o:(V.line==pos.line)=true)(a1:(T.names.any fun(n,k)=>n==z&&(k==.local||k==.cell))=false):
  dc B W F j (.Assign [.Name z V] (.ListComp bX [⟨.Name x px,X,cB,0⟩] T pos) sp) (.f4 [i] false bI im e be):=by
 intro A U K E J hA k;obtain rfl:=k.1;have k:=k.2;have hs:=y.c.loc z i hz hl;have a2:swapsWith (.ListComp bX [⟨.Name x px,X,cB,0⟩] T pos) (some (.Name z V)) sp.line F.env=pure true:=by show pure (F.env.blockKind==.function&&F.env.kindOf z==some .local&&V.line==pos.line&&!(T.names.any fun(n,k)=>n==z&&(k==.local||k==.cell)))=_;exact Z (qV y.f)<|Z (y.f.loc z<|mem_of_getElem? hs)<|Z o<|Z a1 rfl
 rw[exec_Assign_Name_used _ _ _ _ a2];refine G.bind<|G.standAt ⟨fun s R=>?_⟩;refine wpAny_bind<|wpAny_bind (wpAny_mono (vP (M:=some<|assign (.Name z V) F.env) (Q:=fun O H=>dk (fun D=>aS B F D H) fun D=>dk (fun d=>gb .next d) fun d=>K d D) y hN c hA a0 g he aj k ?_ R) (fun O H hq=>wpAny_pure<|wpAny_pure hq) fun O O z=>z);intro cz P k1 m cv C Y a8 H st f r;have nu:((⟨F.env,F.L,m,F.act⟩::(F.ups++[⟨Y,C,a8,false⟩]):List gs).map (·.L)).Nodup:=by have:=r.nodup;refine(Perm.nodup_iff<|List.Perm.map _ ?_).mp this;exact(perm_append_singleton ⟨Y,C,a8,false⟩<|F.up m).symm
 have r1:Rel B (⟨F.env,F.L,m,F.act⟩::(F.ups++[⟨Y,C,a8,false⟩])) (cellsOf F.slots cv++F.prot) P.h H.heap:=r.pick (fun u w=>by
  rcases bU w with q|q
  .exact Z q<|.tail _<|.head _
  .rcases mem_append.mp q with q|q
   .exact .tail _<|.tail _ q
   .exact Z (mem_singleton.mp q)<|.head _) nu (fun O q=>q) r.dG
 have R1:aS B {F with ups:=F.ups++[⟨Y,C,a8,false⟩]} P H:=⟨st,m,cv,r1,f⟩;have a3:=y.f.more (u:=⟨Y,C,a8,false⟩) rfl;have a4:G B {F with ups:=F.ups++[⟨Y,C,a8,false⟩]} A (assign (.Name z V) F.env (.ref cz)) (fun O J=>K .bL J) E P:=by show G _ _ A (do standAt V;bindName F.env z (.ref cz)) _ E P;exact G.bind<|G.standAt<|i5 (v:=.ref cz) a3 hs k1
 refine wpAny_mono (a4.run H R1) (fun _ l a5=>a5.elim fun M R2 k2=>?_) fun e l a6=>a6.elim fun M a h1 R2 h2 h3=>?_
 .refine R2.elim fun t p I S f2=>?_;have r3:Rel B (⟨Y,C,a8,false⟩::F.up p) (cellsOf F.slots I++F.prot) M.h l.heap:=S.pick (fun u w=>by
   rcases bU w with q|q
   .exact Z q<|.tail _<|mem_append_right _<|.head _
   .rcases bU q with q|q
    .exact Z q<|.head _
    .exact .tail _<|mem_append_left _ q) (by
    refine(Perm.nodup_iff<|List.Perm.map _ ?_).mp S.nodup;exact perm_append_singleton ⟨Y,C,a8,false⟩<|F.up p) (fun O q=>q) S.dG
  refine⟨a8,(r3.fr _<|.head _).1,fun h' sb=>⟨M,⟨t,p,I,r3.vJ (fun b x hb e=>(sb.2 b hb).trans e)<|Z sb.1 r3.size,f2⟩,.bL,.next,k2⟩⟩
 .refine R2.elim fun t p I S f2=>?_;refine⟨M,a,h1,⟨t,p,I,S.pick (fun u w=>?_) ?_ (fun O q=>q) S.dG,f2⟩,h2,h3⟩
  .rcases bU w with q|q
   .exact Z q<|.head _
   .exact .tail _<|mem_append_left _ q
  .refine List.Nodup.sublist (List.Sublist.map _ ?_) S.nodup;exact(sublist_append_left _ _).cons_cons _
theorem CV{al}(y:d0 B W N al F)(t:N<=91){bX Y x T S V Q}{aO:aa}{cB X pos sp n e L bI be}(c:gc F al x X bI)(I:bu B W F Y L)(P:∀a b c,Y≠.Set a b c)(q:cp ⟨eI x X.names,al.glob,al.dQ⟩ n bX=some e)(aj:(cB=[]/\be=none)\/bs fun c H=>ct (cB=[c]) (be=some H)<|cp ⟨eI x X.names,al.glob,al.dQ⟩ n c=some H)(D:cu (V.map<|hQ al)=some aO):
  dc B W F j (.Assign [.Tuple V Q S] (.ListComp bX [⟨.Name x T,Y,cB,0⟩] X pos) sp) (.f4 aO true bI L e be):=by
 intro A U K E J z k;obtain rfl:=k.1;have p:exec (.Assign [.Tuple V Q S] (.ListComp bX [⟨.Name x T,Y,cB,0⟩] X pos) sp) F.env=(do standAt sp;let v<-eval (.ListComp bX [⟨.Name x T,Y,cB,0⟩] X pos) F.env;(do(do assign (.Tuple V Q S) F.env v);pure Flow.next)):=by rfl
 rw[p];refine G.bind<|G.standAt<|G.bind (K:=fun f J=>dk (fun M=>gb f M) fun M=>K M J) ⟨fun s R=>?_⟩;rw[eval_ListComp];refine vP (M:=none) y t c z I P q aj k.2 ?_ R;intro cz w o m l C i a8 s' st f r;refine⟨a8,(r.fr _<|.head _).1,fun h' u=>⟨w,⟨st,m,l,r.vJ (fun b x h e=>(u.2 b h).trans e)<|Z u.1 r.size,f⟩,?_⟩⟩;exact G.bind<|(rb (v:=.ref cz) y.f y.c z D o).post fun O d g=>fv.next g
theorem CW{b f p n b0}(S:bT F)(m:f.isEmpty=false)(hb:fw B W F j b n)(l:fw B W F j f b0):dc B W F j (.Try b [] [] f p) (.im n b0):=by
 intro A U K E J Z k;refine G.bind<|G.standAt<|G.vI fun s R Q X q D=>?_;unfold tryStmt;simp(iota:=false)only[m,Bool.false_eq_true,if_false];refine wpAny_bind<|wpAny_attempt<|wpAny_bind<|wpAny_attempt<|wpAny_mono ((hb Z k).run s R) (fun M s1 z=>z.elim fun i y z=>z.elim fun h L Y=>?_) fun x s1 x1=>?_
 .have go:set_option backward.match.sparseCases true in wpAny (model B.prog B.w) A (do
    match<-holding (match M with|.ret v=>[v]|_=>[]) (runOwn (.block f F.env) F.env)with
    |.next=>pure M
    |CX=>rule "try.finally-overrides-flow";pure CX) Q X s1:=by
   refine wpAny_bind<|wpAny_holding<|wpAny_mono (vv (K:=fun I J=>match I with|.bL=>K h J|_=>K I J)<|vG S Z (l Z Y) y) (fun f2 s2 z=>z.elim fun a1 V z=>z.elim fun a2 u t=>?_) D;cases u;exact wpAny_pure<|q _ _ _ V ⟨h,L,t⟩;exact wpAny_bind<|wpAny_rule<|wpAny_pure<|q _ _ _ V ⟨.dx,.brk,t⟩;exact wpAny_bind<|wpAny_rule<|wpAny_pure<|q _ _ _ V ⟨.ay _,.ret,t⟩
  cases L;exact wpAny_pure go;exact wpAny_pure go;exact wpAny_pure go
 .obtain⟨i,a,rfl,y,-,Y⟩:=x1;obtain@⟨C,d,c,P,Y⟩:=Y;refine wpAny_bind<|j8 S Z y ⟨d,c,P⟩ fun s2 V bA=>?_;refine wpAny_bind<|wpAny_throw ?_;refine wpAny_bind<|j8 S Z V ⟨d,c,P⟩ fun s3 R3 t3=>?_;refine wpAny_bind<|iu R3 ⟨d,c,P⟩ fun s4 R4 ii=>?_;have g:=R4.mark P<|ii t3;have H:b1 F (A.mark (some (.ref a))) (some a) (10+j):=Z.mark a;refine wpAny_bind<|wpAny_holding<|wpAny_mono (rk (by intro q;cases q) (vG S H (l H Y) g)) (fun f2 s5 z=>z.elim fun e R5 z=>z.elim fun a3 r N=>?_) D;cases r<;>try(exact N.elim)
  obtain⟨⟨C5,og,c5,o,t5⟩,N⟩:=N;obtain⟨dp,ad,T,ba,ts,ho,a0,h1,hT,a4,a5,a6,a7⟩:=R5.vC o t5;refine wpAny_bind<|wpAny_field ho a0 h1 ?_;refine wpAny_bind<|iu R5 (a:=a) (C:=C5) ⟨og,c5,o⟩ fun s7 R7 O=>?_;exact wpAny_throw<|D _ _ ⟨e,a,rfl,R7,⟨C5,og,c5,o⟩,N⟩
theorem CY{e q}(h:uS e=some q):e=.ListComp q.1 q.2.1 q.2.2.1 q.2.2.2:=by cases e<;>first|exact no h|(obtain rfl:=a2 h;rfl)
theorem rp{e q}(h:mI e=some q):e=.Name q.1 q.2:=by cases e<;>first|exact no h|(obtain rfl:=a2 h;rfl)
theorem CZ{e q}(h:uT e=some q):e=.Tuple q.1 q.2.1 q.2.2:=by cases e<;>first|exact no h|(obtain rfl:=a2 h;rfl)
theorem C0{s q}(h:uV s=some q):s=.Assign [q.1] q.2.1 q.2.2:=by
 cases s with
 |Assign Z v p=>exact Ok.one (l:=Z) (k:=fun t=>some (t,v,p)) (Q:=fun q=>Stmt.Assign Z v p=.Assign [q.1] q.2.1 q.2.2) (fun a e=>.some<|by subst e;rfl) _ h
 |_=>exact no h
theorem oU{al n e m}(h:cp al n e=some m)(a)(b)(c):e≠.Set a b c:=by intro q;subst q;cases n<;>exact no h
theorem C1{al n cB k}:Ok (uU al n cB k) fun m=>∃be,m=k be/\((cB=[]/\be=none)\/bs fun c Z=>ct (cB=[c]) (be=some Z)<|cp al n c=some Z):=by
 cases cB with
 |nil=>exact .some ⟨_,rfl,.inl ⟨rfl,rfl⟩⟩
 |cons c r=>exact .nil fun q=>.map fun Z h=>⟨_,rfl,.inr ⟨c,Z,a4 q,rfl,h⟩⟩
theorem vQ{al n aO T e P}(k:∀bX x R Y cB X pos W bI V be,e=.ListComp bX [⟨.Name x R,Y,cB,0⟩] X pos->gc F al x X bI->cp al n Y=some W->
   cp ⟨eI x X.names,al.glob,al.dQ⟩ n bX=some V->((cB=[]/\be=none)\/bs fun c S=>ct (cB=[c]) (be=some S)<|cp ⟨eI x X.names,al.glob,al.dQ⟩ n c=some S)->P (.f4 aO T bI W V be)):Ok (qZ al n aO T e) P:=
 .cY (fun O=>.none) fun q Q=>.one fun g N=>.cY (fun O=>.none) fun x M=>.bJ fun U=>.bJ fun L=>.bind fun W K=>.bind fun bI J=>.bind fun V I m H=>by obtain⟨be,rfl,G⟩:=C1 _ H;obtain⟨t,Y,cB,E⟩:=g;have U:E=0:=aU U;subst U;exact k q.1 x.1 x.2 Y cB q.2.2.1 q.2.2.2 W bI V be ((CY Q).trans<|Z N<|aW (show t=.Name x.1 x.2 from rp M) rfl) (CJ L J) K I G
theorem C2{al}(y:d0 B W N al F)(R:N<=91){n s}:Ok (uW al n s) (dc B W F j s):=
 .cY (fun O=>.none) fun q M=>by rw[C0 M];refine .cY (fun O=>.cY (fun O=>.none) fun t V=>.bJ fun O=>.bind fun aO U=>.bJ fun O=>?_) fun z V=>.bJ fun U=>.bJ fun Q=>.bJ fun P=>.bind fun i Y=>?_;rw[CZ V];refine vQ (F:=F) fun O O O O O O O O O O O e c Y X T=>?_;exact Z e fun O O O O O S k=>CV (j:=j) y R c (ef n y Y).1 (oU Y) X T U S k;rw[rp V];refine vQ (F:=F) fun O O O O O O O O O O O e c X T L=>?_;rw[e]at Q P⊢;exact fun O O O O O S k=>CU (j:=j) y R c (ef n y X).1 (oU X) T L Y (aU U) Q (Bool.not_eq_true' _|>.mp P) S k
section
theorem gR{b}(h:(!b)=true):b=false:=Bool.not_eq_true' _|>.mp h
theorem vR{al Z}:Ok (q0 al Z) fun aO=>cu (Z.map<|hQ al)=some aO/\aO.Nodup:=
 .bJ fun O=>.bind fun O h=>.bJ fun q=>.some ⟨h,aU q⟩
variable{al:c2}{n:Nat}{f:List Stmt->Option (List cj)}(ab:∀{F:bM},d0 B W N al F->∀b,Ok (f b) (fw B W F j b))(x:d0 B W N al F)
include x
theorem C3{t e p}(X:hR e=false):Ok (uX al n e t) (dc B W F j<|.Assign [t] e p):=by
 cases t with
 |Name y q=>exact .bind fun O Z=>.map fun O Y=>B9 x.f x.c X Z (ef n x Y).1
 |Tuple T k q=>exact .bJ fun V=>.bind fun O Z=>.map fun O Y=>have z:=vR _ Z;Cj x.f x.c X (gR V) z.1 z.2 (ef n x Y).1
 |Attribute o y q=>exact .bind fun O Z=>.map fun O Y=>Ca x.w X (ef n x Z).1 (ef n x Y).1
 |Subscript o i q=>exact .cY (fun V=>.bind fun O Z=>.bind fun O Y=>.map fun O U=>Cb X (fun O O O O q=>by rw[q]at V;trivial) (ef n x Z).1 (ef n x Y).1 (ef n x U).1) fun O O=>.none
 |_=>exact .none
theorem C4{t e X p}:Ok (uY al n X e t) (dc B W F j<|.AugAssign t X e p):=by
 cases t with
 |Name y q=>exact .bind fun O Z=>.map fun O Y=>Cc x.f x.c Z (ef n x Y).1
 |Attribute o y q=>exact .bind fun O Z=>.map fun O Y=>Cd x.w (ef n x Z).1 (ef n x Y).1
 |_=>exact .none
theorem C5{nm k}:Ok (u0 al nm k) fun m=>∃i,ct (m=k i) (∀Z,i=some Z->∃n,nm=some n/\F.slots[Z]?=some (.cA n)) (i=none->nm=none):=by
 cases nm with
 |none=>exact .some ⟨none,rfl,fun O q=>no q,fun O=>rfl⟩
 |some z=>exact .bJ fun Y=>.map fun i X=>⟨some i,rfl,fun Z q=>by obtain rfl:=a2 q;exact⟨z,rfl,x.c.loc z i X<|beq_iff_eq.mp Y⟩,fun q=>no q.symm⟩
include ab
theorem C6{t e b p}:Ok (uZ al n f e b t) (dc B W F j<|.For t e b [] p):=by
 cases t with
 |Name y q=>exact .bind fun O Y=>.bind fun O Z=>.map fun O X=>vy x.b x.f x.lo (oU Z) (fun a o=>vz (x.f.guard a o) (x.c.guard a o) Y) (ef n x Z).1 fun a o=>ab (x.guard a o) _ _ X
 |Tuple V k q=>exact .bind fun O Y=>.bind fun O Z=>.map fun O X=>vy x.b x.f x.lo (oU Z) (fun a o=>Ct (x.f.guard a o) (x.c.guard a o) (vR _ Y).1) (ef n x Z).1 fun a o=>ab (x.guard a o) _ _ X
 |_=>exact .none
theorem C7{b b0 Y p}:Ok (u1 al f b b0 Y) (dc B W F j<|.Try b Y [] b0 p):=by
 cases Y with
 |nil=>exact .bJ fun q=>.bind fun O V=>.map fun O T=>CW x.f (gR q) (ab x _ _ V)<|ab x _ _ T
 |cons h Y=>refine .nil fun S=>.nil fun R=>?_;subst S R;obtain⟨t,nm,h,I⟩:=h;refine .cY (fun O=>.none) fun t S=>.cY (fun O=>.none) fun y R=>.bJ fun N=>.bJ fun X=>.bind fun O V=>.bind fun O T m M=>?_;subst S;rw[rp R];obtain⟨i,rfl,Q,P⟩:=C5 x _ M;have X:=aU X;intro A U K E J L k;exact CE x.b x.f x.c (ve x.b x.f x.c (a4 X) N<|Z X x.r) Q P (ab x _ _ V) (ab x _ _ T) L k
theorem C8(s):Ok (u2 al n f s) (dc B W F j s):=by
 cases s with
 |Expr e p=>exact .bJ fun Z=>.bJ fun O=>.map fun O h=>B1 x.f (gR Z) (ef n x h).1
 |Assign T e p=>exact .one fun t q=>.bJ fun Z=>by subst q;exact C3 x<|gR Z
 |AugAssign t S e p=>exact C4 x
 |Return e p=>cases e with|none=>exact .some B5|some e=>exact .map fun O h=>B4 (ef n x h).1
 |Raise e c p=>exact .cY (fun q=>.cY (fun O=>.none) fun e V=>.map fun O h=>by subst q V;exact Cy (ef n x h).1) fun O O=>.none
 |If t b o p=>exact .bind fun O Y=>.bind fun O X=>.map fun O U=>B6 (ef n x Y).2 (ab x _ _ X)<|ab x _ _ U
 |While t b o p=>exact .nil fun q=>.bind fun O Y=>.map fun O X=>by subst q;exact Ck x.f (ef n x Y).2<|ab x _ _ X
 |For t e b o p=>exact .nil fun q=>by subst q;exact C6 ab x
 |Break p=>exact .some B3
 |Pass p=>exact .some B2
 |Try b h o b0 p=>exact .nil fun q=>by subst q;exact C7 ab x
 |_=>exact .none
end
theorem vS{al}(Z:N<=91):∀(n:Nat){F:bM},d0 B W N al F->∀{s:Stmt}{m:cj},q1 al n s=some m->dc B W F j s m
 |0,_,_,_,_,h=>no h
 |n+1,_,x,s,m,h=>Ok.cY (Q:=dc B W _ j s) (fun O=>C8 (fun y O O h=>vq h fun O O h=>vS Z n y h) x s) (fun O h=>.some<|C2 x Z _ h) m h
theorem Rel.sub{Y Z}(R:Rel B ups prot h H)(W:Y.Sublist ups)(V:Z.Sublist prot):Rel B Y Z h H:=
 ⟨R.size,R.keep,R.objs,fun u q=>R.fr u<|W.subset q,(W.map _).nodup R.nodup,(V.map _).nodup R.dG,fun p q=>by have X:=R.pr p<|V.subset q;exact⟨X.1,X.2.1,X.2.2.1,fun x=>X.2.2.2.1<|(W.map _).subset x,X.2.2.2.2⟩⟩
theorem rq{aq:Type}{n}{l:List Str}{w:List aq}:(List.lookup n<|l.zip w).isNone=true↔n∉l.take w.length:=by
 induction l generalizing w with
 |nil=>simp
 |cons x l ab=>
  cases w with
  |nil=>exact aU
  |cons v w=>
   simp only[zip_cons_cons,lookup_cons,length_cons,take_succ_cons,mem_cons,not_or];by_cases h:n=x
   .subst h;simp
   .have:(n==x)=false:=by simpa using h
    refine Z this ?_;simp only[ab,h,not_false_iff,true_and]
noncomputable def iv{aq:Type}(Z:List (Str×aq))(p:Str×aq):List (Str×aq):=if(Z.lookup p.1).isNone then Z++[(p.1,p.2)]else Z
theorem C9{aq}:∀(Y pre:List Str)(X w:List aq),(pre++Y).Nodup->X.length=Y.length->pre.length<=w.length->w.length<=(pre++Y).length->
  (Y.zip X).foldl iv ((pre++Y).zip w)=(pre++Y).zip (w++X.drop (w.length-pre.length)):=by
 intro Y;induction Y with
 |nil=>intro pre X w aC U W T;have:X=[]:=length_eq_zero_iff.mp (by trivial);subst this;simp
 |cons n Y ab=>
  intro pre X w aC U W T;cases X with
  |nil=>trivial
  |cons d X=>
   have V:((pre++[n])++Y).Nodup:=by simpa using aC
   have e:pre++n::Y=(pre++[n])++Y:=by exact append_cons ..
   simp(iota:=false)only[zip_cons_cons,foldl_cons];by_cases c:w.length=pre.length
   .have S:(List.lookup n ((pre++n::Y).zip w)).isNone=true:=by rw[rq,c,take_left];intro q;exact(nodup_append.mp aC).2.2 _ q _ (.head _) rfl
    have R:iv ((pre++n::Y).zip w) (n,d)=((pre++[n])++Y).zip (w++[d]):=by
     unfold iv;rw[if_pos S,e];rw[append_assoc];rw[zip_append<|by simpa using c.symm];have:(pre++([n]++Y)).zip w=pre.zip w:=by rw[<-append_nil w,zip_append<|by simpa using c.symm];simp
     rw[this];simp
    rw[R,e,ab (pre++[n]) X (w++[d]) V (by simpa using U) (by simp;exact W)<|by simp at T⊢;exact((aT 0x40081281241085024028101) c)];congr 1;simp[c]
   .have S:¬(List.lookup n ((pre++n::Y).zip w)).isNone=true:=by rw[rq,Classical.not_not];exact mem_of_getElem? (i:=pre.length) (by rw[List.getElem?_take_of_lt<|Nat.lt_of_le_of_ne W fun a=>c<|id<|Eq.symm a];simp)
    have R:iv ((pre++n::Y).zip w) (n,d)=((pre++[n])++Y).zip w:=by unfold iv;exact Z (if_neg S)<|Z e rfl
    refine Z R<|Z e<|Z (ab (pre++[n]) X w V (by simpa using U) (by simp;exact Nat.lt_of_le_of_ne W fun a=>c a.symm)<|by simpa using T) ?_;congr 2;have:w.length-pre.length=(w.length-(pre++[n]).length)+1:=by simp;exact z9<|Nat.lt_of_le_of_ne W fun a=>c a.symm
    refine Z this ?_;rfl
theorem Da{aq:Type}:∀(l:List Str)(Y:List aq)(X:List (Str×aq)),l.Nodup->Y.length=l.length->(∀n∈l,(X.lookup n)=none)->l.filterMap (fun n=>(List.lookup n<|X++l.zip Y).map fun x=>(n,x))=l.zip Y:=by
 intro l;induction l with
 |nil=>intro Y X aC V O;exact nil_append _
 |cons n l ab=>
  intro Y X aC V U;cases Y with
  |nil=>trivial
  |cons v Y=>
   have W:=nodup_cons.mp aC;have S:List.lookup n (X++(n::l).zip (v::Y))=some v:=by refine Z lookup_append<|Z (U n<|.head _) ?_;simp
   refine Z filterMap_cons<|Z S ?_;congr 1;have:=ab Y (X++[(n,v)]) W.2 (Nat.succ.inj V) (fun x T=>by
    refine Z lookup_append<|Z (U x<|.tail _ T) ?_;have:(x==n)=false:=by simp;rintro rfl;exact W.1 T
    simp[lookup_cons,this])
   simpa using this
theorem vT{aq c}{d:Decidable c}{M A}{t e:Sem aq}{Q E s}(h:¬c)(k:wpAny M A e Q E s):wpAny M A (if c then t else e) Q E s:=by refine Z (if_neg h) ?_;exact k
theorem Db{aq ck:Type}{M A Q E s f g}(l:List aq)(b:ck)(h:∀a b,f a b=pure (.yield<|g b a))(q:Q (l.foldl g b) s):wpAny M A (forIn l b f) Q E s:=by (refine Z (show f=fun a b=>pure (.yield<|g b a) from funext fun a=>funext (h a)) ?_;rw[forIn_pure_yield_eq_foldl]);exact wpAny_pure q
theorem Dc{aI}{ad Y:List Value}(aC:aI.Nodup)(U:ad.length<=aI.length)(X:aI.length<=ad.length+Y.length)(W:Y.length<=aI.length):
  List.filter (fun n=>(List.lookup n<|aI.zip ad).isNone) (List.take (aI.length-(List.drop (Y.length-aI.length) Y).length) aI)=[]/\
  List.filterMap (fun n=>Option.map (fun x=>(n,x))<|List.lookup n<|((List.drop (aI.length-(List.drop (Y.length-aI.length) Y).length) aI).zip<|List.drop (Y.length-aI.length) Y).foldl (fun b a=>iv b a)<|aI.zip ad) (aI++[])=aI.zip (ad++Y.drop (ad.length+Y.length-aI.length)):=by
 have S:List.drop (Y.length-aI.length) Y=Y:=by refine Z (show Y.length-aI.length=0 by exact Nat.sub_eq_zero_of_le W) ?_;rfl
 rw[S];refine⟨?_,?_⟩
 .skip;rw[filter_eq_nil_iff];intro n V R;refine(rq.mp R) ?_;have:List.take (aI.length-Y.length) aI=List.take (aI.length-Y.length) (List.take ad.length aI):=by exact Z take_take<|Z (Nat.min_eq_left<|by exact((bh 0x1030a0488084020404188102) X<|bz W)) rfl
  replace V:=this▸V;exact mem_of_mem_take V
 have T:((List.drop (aI.length-Y.length) aI).zip Y).foldl (fun b a=>iv b a) (aI.zip ad)=aI.zip (ad++Y.drop (ad.length+Y.length-aI.length)):=by have:=C9 (List.drop (aI.length-Y.length) aI) (List.take (aI.length-Y.length) aI) Y ad (by rw[take_append_drop];exact aC) (by simp;exact bR ((bh 0x1820a0488084020404188102) (bt aI.length<|aI.length-Y.length)<|bz W)<|(bh 0x830a0488084020408188102) (bt aI.length Y.length)<|bz<|sub_le aI.length Y.length) (by simp;exact X) (by rw[take_append_drop];exact U);rw[take_append_drop]at this;refine Z this ?_;congr 3;simp;exact bR ((fK 0x30214281200811030a0408084020410288103) (bt aI.length Y.length) (bt (ad.length+Y.length) aI.length)<|bz<|(bh 0x1030a0488084020404188102) X<|bz W)<|(fK 0x30012050a04901820a0488084020404288103) (bt ad.length<|aI.length-Y.length) (bz W)<|bz<|(aT l0) X
 have Q:=Da aI (ad++Y.drop (ad.length+Y.length-aI.length)) [] aC (by simp;exact bR ((bV 0x41040a048c10420028103080028102) (bt (ad.length+Y.length) aI.length)<|bz<|(bh 0xc00420828121002040c108102) U<|bz<|(aT l0) X)<|(bV 0x20460828122021008101081188102) (bt Y.length<|ad.length+Y.length-aI.length)<|bz<|(aT l0) X) (fun O O=>rfl)
 (refine Z T ?_;rw[append_nil]);exact Q
theorem Dd{nm Y Z X W V U gl cl j9 T S R Q P O N ad}:
  bs fun(t1 bA:Option (Array Value)->Sem (List (Str×Value)))=>
  bindArgs ⟨nm,Y,⟨[],Z,none,[],X,none,W⟩,V,U,gl,cl,j9,T,S,R,O,Q,P,N⟩ ⟨ad,[]⟩=(do
   let x<-seqItems? j9
   if(decide (ad.length>(Z.map (·.arg)).length)&&Option.isNone (none:Option Arg))=true then t1 x
   else if(!(List.filter (fun n=>(List.lookup n ((Z.map (·.arg)).zip ad)).isNone) (List.take ((Z.map (·.arg)).length-(List.drop ((x.getD #[]).toList.length-(Z.map (·.arg)).length) (x.getD #[]).toList).length) (Z.map (·.arg)))).isEmpty)=true then bA x
   else do
    let s<-forIn ((List.drop ((Z.map (·.arg)).length-(List.drop ((x.getD #[]).toList.length-(Z.map (·.arg)).length) (x.getD #[]).toList).length) (Z.map (·.arg))).zip (List.drop ((x.getD #[]).toList.length-(Z.map (·.arg)).length) (x.getD #[]).toList)) ((Z.map (·.arg)).zip ad) fun x s=>if(List.lookup x.1 s).isNone=true then pure (.yield<|s++[(x.1,x.2)])else pure (.yield s)
    pure (List.filterMap (fun n=>Option.map (fun x=>(n,x))<|List.lookup n s) (Z.map (·.arg)++[]))):=⟨_,_,rfl⟩
theorem De{Y ad X aI}(S:Y.params.posonlyargs=[])(R:Y.params.args.map (·.arg)=aI)(O:Y.params.vararg=none)(N:Y.params.kwonlyargs=[])(L:Y.params.kwarg=none)(aC:aI.Nodup)(K:ad.length<=aI.length)(y:aI.length<=ad.length+X.length)(w:X.length<=aI.length){M A E s Q}(U:(Y.defaults=.none/\X=[])\/cP fun T o n=>ct (Y.defaults=.ref T) (s.heap.get? T=some o)<|o.data=.seq X.toArray n)(q:Q (aI.zip<|ad++X.drop (ad.length+X.length-aI.length)) s):wpAny M A (bindArgs Y ⟨ad,[]⟩) Q E s:=by
 have W:∀{P:Option (Array Value)->Shared->Prop},(∀x:Option (Array Value),(x.getD #[]).toList=X->P x s)->wpAny M A (seqItems? Y.defaults) P E s:=by
  intro P J;rcases U with⟨e,rfl⟩|⟨T,o,n,e,v,I⟩
  .rw[e];show wpAny M A (do notAStandIn .none;pure none) _ _ _;exact wpAny_bind<|wpAny_pure<|wpAny_pure<|J none rfl
  .exact Z e<|wpAny_seqItems v I<|J _<|by exact nil_append _
 obtain⟨nm,H,⟨u,G,t,r,F,p,D⟩,C,B,gl,cl,j9,_,_,_,_,_,_,_⟩:=Y;dsimp only at S R O N L W;subst S O N L R;obtain⟨t1,bA,e⟩:=Dd (nm:=nm) (Y:=H) (Z:=G) (X:=F) (W:=D) (V:=C) (U:=B) (gl:=gl) (cl:=cl) (j9:=j9) (ad:=ad);refine Z e<|wpAny_bind (W fun x V=>?_);have z:=Dc aC K (V.symm▸y) (V.symm▸w);refine vT (fun q=>absurd (aU (Bool.and_eq_true_iff.mp q).1)<|Nat.not_lt_of_le K) ?_;refine vT (fun q=>by replace q:=z.1▸q;trivial) ?_;refine wpAny_bind<|Db (g:=iv) _ _ (fun a b=>by unfold iv;split<;>rfl) ?_;exact wpAny_pure (z.2.symm▸V.symm▸q)
def d1(names:List (Str×NameKind)):List Str:=names.filterMap fun p=>if hP p.2 then some p.1 else none
noncomputable def plainNames(names:List (Str×NameKind)):Bool:=names.all fun p=>decide (names.lookup p.1=some p.2)&&decide (p.2≠.free)
noncomputable def eJ:Nat->List (Str×NameKind)->List Slot|_,[]=>[]|a,(n,k)::r=>if k==.cell then .cx n a::eJ (a+1) r else if k==.local then .cA n::eJ a r else eJ a r
theorem rr:∀(x:Nat)(n:PySem.Str)(k:PySem.NameKind)(r:List (PySem.Str×PySem.NameKind)),eJ x ((n,k)::r)=if(k==PySem.NameKind.cell)=true then Slot.cx n x::eJ (x+1) r else if(k==PySem.NameKind.local)=true then Slot.cA n::eJ x r else eJ x r:=by intros;rfl
structure FnAt(B:bY)(a:Nat)(al:c2)(fn:aR)(X:FuncData)(body:List Stmt)(aI W:List Str)(V:List Value):Prop where
 obj:∃o,B.h₀.get? a=some o/\o.data=.func X
 bd:X.body=.stmts body
 co:X.scope.isCoroutine=false
 gen:X.scope.isGenerator=false
 kind:X.scope.kind=.function
 code:B.h₀.CodeRec X.code X.qualname
 Df:X.globals=mainGlobals
 blt:X.builtins=builtinsNs
 pos:X.params.posonlyargs=[]
 arg:X.params.args.map (·.arg)=aI
 var:X.params.vararg=none
 Dg:X.params.kwonlyargs=[]
 Dh:X.params.kwarg=none
 j9:(X.defaults=.none/\V=[])\/cP fun T o n=>ct (X.defaults=.ref T) (B.h₀.get? T=some o) (o.data=.seq V.toArray n)
 vU:V.length<=aI.length
 nm:al.names=X.scope.names
 plain:plainNames X.scope.names=true
 locs:d1 X.scope.names=aI++W
 aC:(aI++W).Nodup
 comp:u3 al 30 body=some fn.body
 kX:fn.kX=(aI++W).length
 dZ:fn.dZ=aI.length
 dflt:fn.dflt=bo V
section
theorem plain_at{names}(h:plainNames names=true){p}(Z:p∈names):names.lookup p.1=some p.2/\p.2≠.free:=by have:=List.all_eq_true.mp h p Z;simpa only[Bool.and_eq_true,decide_eq_true_eq]using this
theorem rt:∀{names:List (Str×NameKind)}{a:Nat},(∀p∈names,p.2≠.free)->(eJ a names).map Slot.name=d1 names:=by
 intro names;induction names with
 |nil=>intro O O;exact rfl
 |cons pp r ab=>
  obtain⟨n,k⟩:=pp;intro a h;have Z:∀p∈r,p.2≠.free:=fun p Y=>h p<|.tail _ Y;have X:k≠.free:=h (n,k)<|.head _;unfold d1;rw[rr];cases k<;>skip<;>
   first
   |exact absurd rfl X
   |exact bn (_::·) (ab Z)
   |exact ab Z
theorem k7{names a s}(h:s∈eJ a names):(∃n,s=.cA n/\(n,NameKind.local)∈names)\/bs fun n b=>ct (s=.cx n b) ((n,NameKind.cell)∈names) (a<=b):=by
 induction names generalizing a with
 |nil=>trivial
 |cons p r ab=>
  obtain⟨n,k⟩:=p;have Z:∀{Y},a<=Y->s∈eJ Y r->(∃m,s=.cA m/\(m,NameKind.local)∈(n,k)::r)\/bs fun m b=>ct (s=.cx m b) ((m,NameKind.cell)∈(n,k)::r) (a<=b):=fun l e=>(ab e).imp (fun q=>q.elim fun m q=>⟨m,q.1,.tail _ q.2⟩) fun q=>q.elim fun m b q=>q.elim fun e a8 X=>⟨m,b,e,.tail _ a8,bp l X⟩;cases k with
  |cell=>exact(bU (show s∈_::_ from h)).elim (fun e=>.inr ⟨n,a,e,.head _,Nat.le_refl _⟩)<|Z<|le_succ a
  |«local»=>exact(bU (show s∈_::_ from h)).elim (fun e=>.inl ⟨n,e,.head _⟩)<|Z<|Nat.le_refl a
  |_=>exact Z (Nat.le_refl a) h
theorem Di{names a}(h:(d1 names).Nodup):((eJ a names).map ew).Nodup:=by
 induction names generalizing a with
 |nil=>exact .nil
 |cons p r ab=>
  obtain⟨n,k⟩:=p;cases k with
  |cell=>
   have h:=nodup_cons.mp (show(n::d1 r).Nodup from h);refine nodup_cons.mpr ⟨fun q=>?_,ab h.2⟩;obtain⟨s,Z,e⟩:=mem_map.mp q;rcases k7 Z with⟨Y,rfl,m⟩|⟨Y,b,rfl,m,le⟩
   .trivial
   .exact absurd (Sum.inr.inj e▸le)<|not_succ_le_self _
  |«local»=>
   have h:=nodup_cons.mp (show(n::d1 r).Nodup from h);refine nodup_cons.mpr ⟨fun q=>?_,ab h.2⟩;obtain⟨s,Z,e⟩:=mem_map.mp q;rcases k7 Z with⟨Y,rfl,m⟩|⟨Y,b,rfl,m,le⟩
   .cases Sum.inl.inj e;exact h.1<|mem_filterMap.mpr ⟨_,m,rfl⟩
   .trivial
  |_=>first|exact ab h|exact ab (nodup_cons.mp h).2
theorem Dj:∀{names:List (Str×NameKind)}{a:Nat}{Y:List (Str×Addr)}{n:Str}{b:Addr},(d1 names).Nodup->Slot.cx n b∈eJ a names->(cellsFrom a names Y).lookup n=some b:=by
 intro names;induction names with
 |nil=>intro O O O O O h;trivial
 |cons pp r ab=>
  obtain⟨m,k⟩:=pp;intro a Y n b aC h;rw[rr]at h;unfold cellsFrom;have keep:∀(names:List (Str×NameKind))(a:Nat)(Y:List (Str×Addr)),n∉d1 names->(cellsFrom a names Y).lookup n=Y.lookup n:=by
   intro names;induction names with
   |nil=>intros;rfl
   |cons p names ab=>
    intro a Y V;obtain⟨m,k⟩:=p;unfold cellsFrom;have W:n∉d1 names:=fun q=>V (by
     unfold d1;rw[filterMap_cons];split;exact q
     .exact .tail _ q)
    split
    .rename_i q;have q:=beq_iff_eq.mp q;subst q;rw[ab _ _ W,lookup_cons];have:(n==m)=false:=by simp(iota:=false)only[beq_eq_false_iff_ne,ne_eq];rintro rfl;exact V (by unfold d1;exact Z filterMap_cons<|.head _)
     exact Z this rfl
    .exact ab _ _ W
  have X:(d1 r).Nodup:=by unfold d1 at aC;rw[filterMap_cons]at aC;split at aC;exact aC;exact(nodup_cons.mp aC).2
  split
  .rename_i q;have q:=beq_iff_eq.mp q;subst q;rw[if_pos<|beq_self_eq_true _]at h;rcases bU h with e|e
   .cases e;rw[keep]
    .simp
    .unfold d1 at aC;exact(nodup_cons.mp aC).1
   .exact ab X e
  .rename_i q;rw[if_neg q]at h;split at h
   .rcases bU h with e|e
    .trivial
    .exact ab X e
   .exact ab X h
theorem Dk(names):(names.filter fun p=>hP p.2).map (·.1)=d1 names:=by
 unfold d1;induction names with
 |nil=>rfl
 |cons p l ab=>cases q:hP p.2<;>simp[q,ab]
end
set_option genInjectivity false in
structure Look where
 glob:Str->Option V
 raised:Nat
 ax:Nat->Option (List V)
 attr:Nat->aa->Bool
 ec:Nat->aa->Bool
 aZ:Nat->aa->Option Nat
 e9:V->aa->Option V
def oV(B:bY)(n:Nat)(U:Option Nat)(Y:V)(ad:List V)(K:a3 V)(E:a3 Nat)(h:ar):Prop:=∀(F:bM)(A:Around)(J:St)(f:Value)(us:List Value),bT F->B.h₀.objs.size<=F.L->F.ups.length+1=n->b1 F A U 8->J.h=h->toV f=Y->bo us=ad->
  j5 B f/\cX B F A (call f us) (fun v Z=>Z.l=J.l/\K v Z.h) (fun a Z=>Z.l=J.l/\E a Z.h) J
noncomputable def c8(B:bY)(L:Look)(n:Nat):bS where
 call:=oV B n
 inner:=oV B (n+1)
 aZ:=L.aZ
 e9:=L.e9
 raised:=L.raised
 attr:=L.attr
 ec:=L.ec
 ax:=L.ax
structure gw(B:bY)(L:Look):Prop where
 b:dl B
 glob:∀x v,L.glob x=some v->k3 B x v
 vV:L.glob (Str.ofString "Raised")=some (.Y L.raised)
 mM:i3 B L.raised
 ax:∀n,qR B (c8 B L n)
 attr:∀C m,L.attr C m=true->oL B C m
 ec:∀C m,L.ec C m=true->q2 B C m
 k4:∀C m,L.ec C m=true->q3 B C m
 aZ:∀C m f,L.aZ C m=some f->q4 B C m f
 e9:∀o m f,L.e9 o m=some f->oM B o m f
variable{L:Look}{n:Nat}
theorem Dl(x:gw B L)(n):f9 B (c8 B L n) n:=⟨x.ax n,fun Z Y X W k=>k _ _ _ _ _ Z Y X W rfl rfl rfl,x.attr,x.ec,x.k4,x.aZ,x.e9⟩
theorem Dm(x:gw B L)(n):f9 B (c8 B L n).down (n+1):=⟨⟨(x.ax n).1⟩,fun Z Y X W k=>k _ _ _ _ _ Z Y X W rfl rfl rfl,x.attr,x.ec,x.k4,x.aZ,x.e9⟩
theorem Dn{a:Nat}{o Y}(h:B.h₀.get? a=some o)(U:o.data=.func Y):j5 B (.ref a):=by refine⟨.frame,fun A Q E s k q=>?_⟩;refine wpAny_bind<|wpAny_load (k _ _ h) ?_;exact Z U<|wpAny_pure q
noncomputable def i9(Z:FuncData)(l a:Addr):Env:=newEnv Z.scope l Z.globals (cellsFrom (l+1) Z.scope.names Z.closure) (Z.qualname++".<locals>.") (some a) Z.code none Z.builtins
def mS(Z:FuncData)(l a:Addr)(ups:List gs)(prot:List (Addr×Obj)):bM:=⟨i9 Z l a,l,eJ (l+1) Z.scope.names,ups,prot,true,l⟩
theorem Do{a al fn X body aI N J}(x:gw B L)(Y:FnAt B a al fn X body aI N J)(M:al.glob=L.glob){ups prot}(I:∀u∈ups,u.act=true->u.env.scope.kind≠.module/\u.env.frame=some u.L)(H:ups.length<=91)(l)(W:B.h₀.objs.size<=l):
  d0 B (c8 B L<|ups.length+1) (ups.length+1) al (mS X l a ups prot):=by
 have G:∀y,(i9 X l a).kindOf y=X.scope.names.lookup y:=fun y=>rfl;have R:∀p∈X.scope.names,p.2≠.free:=fun p F=>(plain_at Y.plain F).2;have P:(d1 X.scope.names).Nodup:=Z Y.locs Y.aC;have sn:=rt (a:=l+1) R;have look:∀{y:Str}{i:Nat},cF y al.names 0=some i->∃aJ,(eJ (l+1) X.scope.names)[i]?=some aJ/\aJ.name=y:=by intro y i h;rw[Y.nm]at h;refine(oT h).elim fun O q=>?_;rw[Dk,Nat.sub_zero,<-sn,List.getElem?_map]at q;obtain⟨aJ,V,U⟩:=Option.map_eq_some_iff.mp q;exact⟨aJ,V,U⟩
 refine⟨x.b,Dl x _,⟨Y.kind,rfl,⟨i9 X l a,i4 ups,?_,rfl⟩,fun O=>rfl,rfl,Y.Df,Y.blt,fun y T=>?_,fun y c T=>?_,?_,I⟩,rfl,⟨fun y i h=>look h,fun y i h W=>?_,fun y i h W=>?_,fun y v T K=>?_⟩,by rw[M];exact x.vV,x.mM,W,Dm x _,am H,fun y v K=>x.glob y v<|aW M K⟩;rfl
 .rcases k7 T with⟨S,e,m⟩|⟨S,b,e,m,le⟩
  ·(injection e with e;subst e);show(i9 X l a).kindOf y=_;exact(plain_at Y.plain m).1
  .trivial
 .rcases k7 T with⟨S,e,m⟩|⟨S,b,e,m,le⟩
  .trivial
  ·(injection e with e;subst e)
   refine⟨by show(i9 X l a).kindOf y=_;exact(plain_at Y.plain m).1,?_⟩;exact Dj P T
 .have e:((mS X l a ups prot).slots.map fun|.cA n=>(Sum.inl n:Str⊕Addr)|.cx _ a=>Sum.inr a)=(eJ (l+1) X.scope.names).map ew:=by apply map_congr_left;intro s _;cases s<;>rfl
  have q:=Di (a:=l+1) P;exact q
 .obtain⟨aJ,V,U⟩:=look h;refine V.trans<|bn some ?_;rcases k7 (mem_of_getElem? V)with⟨S,e,m⟩|⟨S,b,e,m,le⟩
  .subst e;cases U;rfl
  .subst e;cases U;rw[Y.nm]at W;have Q:=(plain_at Y.plain m).1.symm.trans W;cases Q
 .obtain⟨aJ,V,U⟩:=look h;rcases k7 (mem_of_getElem? V)with⟨S,e,m⟩|⟨S,b,e,m,le⟩
  .subst e;cases U;rw[Y.nm]at W;have Q:=(plain_at Y.plain m).1.symm.trans W;cases Q
  .subst e;cases U;exact⟨b,V⟩
 .refine⟨?_,x.glob y v<|aW M K⟩;show(i9 X l a).kindOf y=_;rw[G,<-Y.nm];unfold mF at T;simpa using T
set_option tactic.hygienic true in
theorem Dp{fn:aR}{ad Z l}{aI Y:List Str}(h:fn.start (bo ad)=some l)(X:fn.kX=(aI++Y).length)(W:fn.dZ=aI.length)(V:fn.dflt=bo Z)(U:Z.length<=aI.length):
  ad.length<=aI.length/\aI.length<=ad.length+Z.length/\l=(ad++Z.drop (ad.length+Z.length-aI.length)).map (fun v=>some<|toV v)++List.replicate Y.length none:=by
 unfold aR.start at h;have T:(bo ad).length=ad.length:=length_map ..;have S:(bo Z).length=Z.length:=length_map ..;rw[W,V,T,S]at h;split at h
 .rename_i c;obtain rfl:=a2 h;refine⟨c.1,((bh 0xc004420404008101061108102) c.2<|bt aI.length ad.length),?_⟩;congr 1
  .rw[show Z.length-(aI.length-ad.length)=ad.length+Z.length-aI.length by exact Nat.le_antisymm ((fK 0x30214281200811820a0408084020410288103) (bt aI.length ad.length) (bt (ad.length+Z.length) aI.length)<|Nat.sub_add_cancel c.2)<|(fK 0x612050a04901820a0488084020404288103) (bt Z.length<|aI.length-ad.length) (Nat.sub_add_cancel c.1)<|Nat.sub_add_cancel<|(bh 0xc004420404008101061108102) c.2<|bt aI.length ad.length];simp[bo];rfl
  .rw[X];simp
 .exact no h
structure ru(ups:List gs)(A:Around)(U:Option Nat):Prop where
 handled:A.handled=U.map Value.ref
 frames:A.frames=some (i4 ups)
 guards:A.guards=some []
 depth:A.depth<=401+2*ups.length
 units:A.units<=210+60*ups.length
abbrev rv(F:bM)(A:Around)(U:Option Nat):Prop:=ru (F.up fun O=>none) A U
theorem b1.wide{F A U j}(x:b1 F A U j):rv F A U:=⟨x.handled,x.frames,x.guards,by have:=x.depth;exact((az 0x81221409e40494020420488502791125008101) this),by have:=x.units;exact((aT 0x812417819e40828400502102482f033d2105008101) this)⟩
def Dq(B:bY)(ups:List gs)(prot:List (Addr×Obj))(K:a3 V)(E:a3 Nat):Result->Shared->Prop:=fun r Z=>match r with
 |.ok (.ret v)=>∃h,ct (Still B Z) (Rel B ups prot h Z.heap)<|K (toV v) h
 |.ok _=>False
 |.error e=>bs fun h a=>eE (e=.ref a) (Still B Z) (Rel B ups prot h Z.heap) (∃C,isExc h a C)<|E a h
theorem oW:∀{names:List (Str×NameKind)}{ups:List gs}{pre post:List (Addr×Obj)}{h:ar}{H:Heap},Rel B ups (pre++post) h H->Rel B ups (pre++cellsOf (eJ H.objs.size names) (fun O=>none)++post) h (pushCells H names)
 |[],ups,pre,post,h,H,R=>by simpa[eJ,cellsOf,pushCells]using R
 |(m,k)::r,ups,pre,post,h,H,R=>by
  unfold pushCells;rw[rr];by_cases q:(k==.cell)=true
  .rw[if_pos q,if_pos q];have Dr:=R.ga (fb none) (aU) rfl;have mT:=oW (names:=r) (pre:=pre++[(H.objs.size,fb none)]) (post:=post) (by simpa using Dr);rw[Heap.size_push]at mT;simpa[cellsOf,append_assoc]using mT
  .rw[if_neg q,if_neg q];split
   .simpa[cellsOf]using oW (names:=r) R
   .exact oW (names:=r) R
theorem Ds{m Z}(Y:∀x,m x=none)(X:∀a,Z a=none)(aJ):Fits aJ m Z (List.replicate aJ.length none):=by
 unfold Fits;induction aJ with
 |nil=>rfl
 |cons s r ab=>rw[map_cons,ab,length_cons,replicate_succ];cases s<;>simp[hj,Y,X]
theorem vW{F}(R:bT F){A E}{K:St->Prop}:∀{aI:List Str}{Z:List Value}{i:Nat}{pre:List (Option V)}{k:Nat}{h:ar}(f:Str×Value->PUnit->Sem (ForInStep PUnit)),(∀n v u,f (n,v) u=(do storeName F.env n v;pure (.yield ⟨⟩)))->
  Z.length=aI.length->pre.length=i->(∀j x,aI[j]?=some x->∃aJ,F.slots[i+j]?=some aJ/\aJ.name=x)->K ⟨pre++Z.map (fun v=>some<|toV v)++List.replicate k none,h⟩->
  G B F A (forIn (aI.zip Z) PUnit.unit f) (fun O J=>K J) E ⟨pre++List.replicate (Z.length+k) none,h⟩
 |[]=>by rename_i Z i pre k h;intro f W Q U T S;have:Z=[]:=length_eq_zero_iff.mp (by trivial);subst this;rw[zip_nil_left,forIn_nil];rw[length_nil,Nat.zero_add];exact G.pure (by simpa using S)
 |x::aI=>by
  rename_i Z i pre k h;intro f W Q U T S;cases Z with
  |nil=>trivial
  |cons v Z=>
  rw[zip_cons_cons,forIn_cons,W];refine(T 0 x rfl).elim fun aJ Y=>?_;refine G.bind<|G.bind ?_;rw[<-Y.2];refine uI R Y.1<|G.pure ?_;have e:St.put ⟨pre++List.replicate ((v::Z).length+k) none,h⟩ (i+0) (toV v)=⟨(pre++[some (toV v)])++List.replicate (Z.length+k) none,h⟩:=by rw[length_cons,show Z.length+1+k=(Z.length+k)+1 by exact Nat.le_antisymm (az 0x20488009088120128100)<|az 0x4409009409100128100,replicate_succ,Nat.add_zero,<-U];simp
  rw[e];refine vW (i:=i+1) R f W (by simpa using Q) (by simp[U]) (fun j x P=>?_) (by simpa using S);refine(T (j+1) x<|by trivial).elim fun aJ X=>?_;exact⟨aJ,by rw[show i+1+j=i+(j+1) by exact Nat.le_antisymm (az 0x20488401088120128100)<|az 0x4409009409108028100];exact X.1,X.2⟩
set_option tactic.hygienic true in
theorem vX{a al fn X body aI W R}(x:gw B L)(Y:FnAt B a al fn X body aI W R)(hg:al.glob=L.glob)(hn:n<=90){U us K E A h s ups prot}(hu:∀u∈ups,u.act=true->u.env.scope.kind≠.module/\u.env.frame=some u.L)(P:ups.length=n)(M:ru ups A U)(k:aR.call (c8 B L<|n+1) U fn (bo us) K E h)(st:Still B s)(r:Rel B ups prot h s.heap):
  codeAny (model B.prog B.w) A (.call (.ref a) ⟨us,[]⟩) (Dq B ups prot K E) s:=by
 refine Y.obj.elim fun o H=>?_;unfold aR.call at k;split at k;rotate_left;exact k.elim;rename_i l a3;have Q:=Dp a3 Y.kX Y.dZ Y.dflt Y.vU;have l3:=Q.2.2;have keep:=r.keep;have a0:A.depth<recursionLimit:=by have:=M.depth;exact((aT 0x8813c8892884080011022b41c808107d028908113) hn P this)
 refine codeAny_call_function a0 (keep _ _ H.1) H.2 Y.co Y.gen Y.bd ?_ ?_;obtain⟨c,oc,hK,t,h1,h2,h3⟩:=Y.code;exact⟨c,oc,hK,t,h1,keep _ _ h2,h3⟩;refine De (X:=R) (aI:=aI) Y.pos Y.arg Y.var Y.Dg Y.Dh ((nodup_append.mp Y.aC).1) Q.1 Q.2.1 Y.vU ?_ ?_
 .rcases Y.j9 with q|⟨T,o',n',q1,q2,q3⟩
  .exact .inl q
  .exact .inr ⟨T,o',n',q1,keep _ _ q2,q3⟩
 have G:(us++R.drop (us.length+R.length-aI.length)).length=aI.length:=by simp;exact bR ((bV 0x41040a048c10420028103080028102) (bt (us.length+R.length) aI.length)<|bz<|(bh 0xc00420828121002040c108102) Q.1<|bz<|(aT l0) Q.2.1)<|(bV 0x20460828122021008101081188102) (bt R.length<|us.length+R.length-aI.length)<|bz<|(aT l0) Q.2.1
 generalize us++R.drop (us.length+R.length-aI.length)=V at l3 G;subst l3;have e0:=Do (prot:=prot) x Y hg hu ((az 0x8812b41c80810b61c888102) hn P) s.heap.objs.size (r.size:B.h₀.objs.size<=s.heap.objs.size);rw[P]at e0;have r1:=r.enter (env:=i9 X s.heap.objs.size a) (act:=true) (Heap.Ns.new s.heap<|.type "frame") (.refl ..);have F:=oW (names:=X.scope.names) (pre:=[]) (post:=prot) r1;rw[Heap.size_push]at F;have D:(eJ (s.heap.objs.size+1) X.scope.names).length=V.length+W.length:=by have:=bn List.length<|rt (a:=s.heap.objs.size+1) (names:=X.scope.names) fun p hp=>(plain_at Y.plain hp).2;rw[length_map,Y.locs,length_append]at this;exact Z this<|Z G rfl
 have R0:aS B (mS X s.heap.objs.size a ups prot) ⟨List.replicate (V.length+W.length) none,h⟩ {s with heap:=pushCells (s.heap.push {cls:=.type "frame",data:=.dict #[]}) X.scope.names}:=by refine⟨st,fun O=>none,fun O=>none,by rw[nil_append]at F;exact F,?_⟩;have:=Ds (m:=fun O=>none) (Z:=fun O=>none) (fun O=>rfl) (fun O=>rfl)<|eJ (s.heap.objs.size+1) X.scope.names;rw[D]at this;exact this
 have a1:b1 (mS X s.heap.objs.size a ups prot) (A.deeper (i9 X s.heap.objs.size a)) U (10+30):=by refine⟨M.handled,?_,M.guards,?_,?_,?_⟩;show A.frames.map _=_;rw[M.frames];rfl;have:=M.depth;exact((az 0x11027911250081081221409e40495024028101) this);have:=M.units;exact((az 0x47819e90828040840910bc0cf20415e0a682158220128101) this);exact((az 0x8812b41c80810be1c888102) hn P)
 simp only[newFunctionEnv,Option.isSome_none,Bool.false_eq_true,if_false];refine wpAny_bind<|wpAny_alloc ?_;refine wpAny_bind<|wpAny_layCells _ (fun name kind a9=>by cases aa:kind==NameKind.cell<;>rfl) _ _ _ _ ?_;rw[show({s with heap:=s.heap.push {cls:=.type "frame",data:=.dict #[]}}:Shared).heap.objs.size=s.heap.objs.size+1 from Heap.size_push ..];have bg:=fun f hf=>vW (B:=B) (A:=A.in1) (E:=fun O O=>False) (K:=fun J=>J=⟨V.map (fun v=>some<|toV v)++List.replicate W.length none,h⟩) e0.f (aI:=aI) (Z:=V) (i:=0) (pre:=[]) (k:=W.length) (h:=h) f hf G rfl (fun j y hy=>by have q:=bn (·[j]?)<|rt (a:=s.heap.objs.size+1) (names:=X.scope.names) fun p hp=>(plain_at Y.plain hp).2;rw[Y.locs,List.getElem?_append_left ((List.getElem?_eq_some_iff.mp hy).1:j<aI.length),hy,List.getElem?_map]at q;refine(Option.map_eq_some_iff.mp q).elim fun aJ g=>?_;exact⟨aJ,by rw[Nat.zero_add];exact g.1,g.2⟩) rfl;refine wpAny_bind<|wpAny_mono ((bg _ fun O O O=>rfl).run _ R0) (fun _ s1 a4=>a4.elim fun ab R1 e1=>?_) fun _ _ a5=>a5.elim fun O O O O O z=>z.elim;subst e1;refine wpAny_pure ⟨x.b.uq.keeps (by refine R1.elim fun O O O r' O=>?_;exact r'.keep),?_⟩;have N:∀{S:St}{I:Shared},aS B (mS X s.heap.objs.size a ups prot) S I->Still B I/\Rel B ups prot S.h I.heap:=by intro S I a6;refine a6.elim fun a7 a8 ac F f2=>?_;exact⟨a7,F.sub (sublist_cons_self ..) (sublist_append_right ..)⟩
 refine codeAny_func ?_;have body:=(vq Y.comp fun s m h=>vS (j:=30) (am hn) 30 e0 h) a1 k;refine wpAny_mono (body.run _ R1) (fun f I z=>z.elim fun S bC z=>z.elim fun fl a2 d=>?_) fun e I x'=>?_;refine⟨S.h,(N bC).1,(N bC).2,?_⟩;cases a2;exact d;exact d;exact d;obtain⟨S,b,rfl,bC,⟨C,hc⟩,d⟩:=x';refine wpAny_bind<|j8 e0.f a1 bC hc fun s2 R2 bA=>iu R2 hc fun s3 R3 O=>?_;exact⟨S.h,b,rfl,(N R3).1,(N R3).2,⟨C,hc⟩,d⟩
def Dt(B:bY)(F:bM)(J:St)(K:a3 V)(E:a3 Nat):Result->Shared->Prop:=fun r Y=>match r with
 |.ok (.ret v)=>dk (fun Z=>aS B F Z Y) fun Z=>(Z.l=J.l/\K (toV v) Z.h)
 |.ok _=>False
 |.error e=>EPost B F (fun a Z=>Z.l=J.l/\E a Z.h) e Y
theorem rx{a al fn O body aI V N}(x:gw B L)(M:FnAt B a al fn O body aI V N)(I:al.glob=L.glob)(H:n<=90){U us K E F A J s}(W:bT F)(T:F.ups.length+1=n)(X:rv F A U)(k:aR.call (c8 B L<|n+1) U fn (bo us) K E J.h)(R:aS B F J s):
  codeAny (model B.prog B.w) A (.call (.ref a) ⟨us,[]⟩) (Dt B F J K E) s:=by
 refine R.elim fun st m Q r P=>?_;refine codeAny_mono (vX (ups:=F.up m) x M I H (fun u G=>?_) T ⟨X.handled,X.frames.trans<|bn some (mv F m).symm,X.guards,X.depth,X.units⟩ k st r) fun r C z=>?_
 .rcases bU G with q|q
  .subst q;intro D;exact⟨by rw[W.kind];exact aU,aW (W.self D) W.frame⟩
  .exact W.ups u q
 .cases r with
  |error e=>refine z.elim fun S b Z=>?_;exact⟨⟨J.l,S⟩,b,Z.1,⟨Z.2,m,Q,Z.3,P⟩,Z.4,rfl,Z.5⟩
  |ok f=>
   cases f with
   |ret v=>refine z.elim fun S Y=>?_;exact⟨⟨J.l,S⟩,⟨Y.1,m,Q,Y.2,P⟩,rfl,Y.3⟩
   |_=>exact z
theorem Du{a al fn Q body aI X P}(x:gw B L)(V:FnAt B a al fn Q body aI X P)(O:al.glob=L.glob)(N:n<=90){U ad K E h}(k:aR.call (c8 B L<|n+1) U fn ad K E h):(c8 B L n).call U (.Y a) ad K E h:=by intro F A J f us M G W I T H S;have:=b7 H;subst this;refine V.obj.elim fun o Z=>?_;subst S T;refine⟨Dn Z.1 Z.2,⟨fun s R=>wpAny_call<|codeAny_mono (rx x V O N M W I.wide k R) fun r D z=>?_⟩⟩;rcases r with e|(v|_|_|_)<;>exact z
noncomputable def vY:Data->Option (List Value)|.seq xs _=>some xs.toList|_=>none
noncomputable def vZ:Data->Option (Array Value)|.fields ad=>some ad|_=>none
noncomputable def v0:Data->Option FuncData|.func fd=>some fd|_=>none
noncomputable def v1:FuncBody->Option (List Stmt)|.stmts b=>some b|_=>none
noncomputable def v2:Value->Option Str|.str q _=>some q|_=>none
noncomputable def refOf:Value->Option Nat|.ref a=>some a|_=>none
noncomputable def ry:Value->Option (List Value)|.none=>some []|_=>none
theorem Dv{d l}(h:vY d=some l):∃n,d=.seq l.toArray n:=by cases d<;>first|exact no h|(obtain rfl:=a2 h;exact⟨_,rfl⟩)
theorem Dw{d l}(h:vZ d=some l):d=.fields l:=by cases d<;>first|exact no h|exact a4<|a2 h
theorem Dx{d l}(h:v0 d=some l):d=.func l:=by cases d<;>first|exact no h|exact a4<|a2 h
theorem Dy{d l}(h:v1 d=some l):d=.stmts l:=by cases d<;>first|exact no h|exact a4<|a2 h
theorem Dz{d l}(h:v2 d=some l):∃t,d=.str l t:=by cases d<;>first|exact no h|(obtain rfl:=a2 h;exact⟨_,rfl⟩)
theorem v3{d l}(h:refOf d=some l):d=.ref l:=by cases d<;>first|exact no h|exact a4<|a2 h
theorem DA{d l}(h:ry d=some l):d=.none/\l=[]:=by cases d<;>first|exact no h|exact⟨rfl,(a2 h).symm⟩
theorem ho{aq ck:Type}{P:Prop}{o}{f:aq->Option ck}{b}(h:o.bind f=some b)(k:∀a,o=some a->f a=some b->P):P:=by
 cases o with
 |none=>exact no h
 |some a=>exact k a rfl h
def v4(K:Frag)(v:Value):Option (List Value):=(ry v).or<|(refOf v).bind fun T=>(K.lookup T).bind fun o=>vY o.data
def codeIn(K:Frag)(be:Value):Option Str:=(refOf be).bind fun c=>(K.lookup c).bind fun o=>(vZ o.data).bind fun ad=>(ad[1]?).bind v2
def rz(K:Frag)(Z:FuncData)(Y:List Value):Bool:=
 !Z.scope.isCoroutine&&!Z.scope.isGenerator&&decide (Z.scope.kind=.function)&&decide (codeIn K Z.code=some Z.qualname)&&decide (Z.globals=mainGlobals)&&decide (Z.builtins=builtinsNs)
  &&Z.params.posonlyargs.isEmpty&&Z.params.vararg.isNone&&Z.params.kwonlyargs.isEmpty&&Z.params.kwarg.isNone&&decide (Y.length<=(Z.params.args.map (·.arg)).length)
  &&plainNames Z.scope.names&&decide ((d1 Z.scope.names).take (Z.params.args.map (·.arg)).length=Z.params.args.map (·.arg))&&decide (d1 Z.scope.names).Nodup
def hU(K:Frag)(g:Str->Option V)(dQ:Bool)(a:Nat):Option aR:=(K.lookup a).bind fun o=>(v0 o.data).bind fun Z=>(v1 Z.body).bind fun body=>(v4 K Z.defaults).bind fun Y=>if rz K Z Y then(u3 ⟨Z.scope.names,g,dQ⟩ 30 body).bind fun b=>some ⟨(d1 Z.scope.names).length,(Z.params.args.map (·.arg)).length,bo Y,b⟩else none
theorem oX{K g dQ a fn}(X:K.In B.h₀)(h:hU K g dQ a=some fn):gJ fun Y body aI Q S=>FnAt B a ⟨Y.scope.names,g,dQ⟩ fn Y body aI Q S:=by
 refine ho h fun o V h=>ho h fun Y I h=>ho h fun body H h=>ho h fun S W h=>?_;by_cases U:rz K Y S=true
 .rw[if_pos U]at h;refine ho h fun b R h=>?_;obtain rfl:=a2 h;unfold rz at U;simp only[Bool.and_eq_true,Bool.not_eq_true',decide_eq_true_eq,isEmpty_iff,Option.isNone_iff_eq_none]at U;obtain⟨⟨⟨⟨⟨⟨⟨⟨⟨⟨⟨⟨⟨G,F⟩,E⟩,D⟩,C⟩,A⟩,z⟩,y⟩,x⟩,P⟩,O⟩,N⟩,M⟩,L⟩:=U;have e:=take_append_drop (Y.params.args.map (·.arg)).length<|d1 Y.scope.names;rw[M]at e;refine⟨Y,body,Y.params.args.map (·.arg),(d1 Y.scope.names).drop (Y.params.args.map (·.arg)).length,S,⟨o,X _ _ V,Dx I⟩,Dy H,G,F,E,?_,C,A,z,rfl,y,x,P,?_,O,rfl,N,e.symm,?_,R,a4 e.symm,rfl,rfl⟩;exact ho D fun c J h=>ho h fun o V h=>ho h fun ad w h=>ho h fun q v h=>(Dz h).elim fun t u=>⟨c,o,ad,t,v3 J,X _ _ V,Dw w,v.trans<|a4 u⟩
  .unfold v4 at W;rcases q:ry Y.defaults with _|l
   .rw[q]at W;exact .inr<|ho W fun T s h=>ho h fun o V h=>(Dv h).elim fun n r=>⟨T,o,n,v3 s,X _ _ V,r⟩
   .rw[q]at W;obtain rfl:=a2 W;exact .inl<|DA q
  .exact Z e L
 .rw[if_neg U]at h;exact no h
theorem DB{K}(x:gw B L)(X:K.In B.h₀){dQ a fn}(h:hU K L.glob dQ a=some fn)(W:n<=90){U ad P E Z}(k:aR.call (c8 B L<|n+1) U fn ad P E Z):(c8 B L n).call U (.Y a) ad P E Z:=by obtain⟨S,body,aI,V,R,T⟩:=oX X h;exact Du x T rfl W k
end
end
section
open PySem
noncomputable abbrev a6.cl(n:Nat)(l:List a6):a6:=.bW (.k<|.Y n) l
noncomputable abbrev a6.ln:List a6->a6:=.bW<|.k<|.b5 "len"
noncomputable abbrev a6.ah(i:Int):a6:=.k<|.ae i
noncomputable abbrev a6.ac(l:aa):a6:=.k<|.S l
noncomputable abbrev a6.bm(n:Nat):a6:=.k<|.Y n
noncomputable abbrev ak:a6:=.x 0
noncomputable abbrev ai:a6:=.x 1
noncomputable abbrev aK:a6:=.x 2
noncomputable abbrev aV:a6:=.x 3
noncomputable abbrev bc:a6:=.x 4
noncomputable abbrev bB:a6:=.x 5
noncomputable abbrev b4:a6:=.x 6
noncomputable abbrev d3:a6:=.x 7
noncomputable abbrev eT:a6:=.x 8
noncomputable abbrev gx:a6:=.x 9
def rA:aR:=⟨6,6,[(.Y 73),(.ae 0),(.ae 0)],[
  .bF (.aZ (.k<|.cg "Exception") (.bE kx) [ak,aK]),
  .cn ak jC ai,
  .cn ak fH aK,
  .cn ak lS aV,
  .cn ak [108,101,118,101,108] bc,
  .cn ak [114,101,116] bB,
  .cn ak jA (.ac []),
  .cn ak nN (.k<|.aP false),
  .cn ak kE (.ah 0),
  .cn ak [101,120,116,114,97] (.ag [])]⟩
def DC:aR:=⟨2,2,[(.Y 131)],[
  .ay (.cl 84 [(.ah 1),ak,ai])]⟩
def DD:aR:=⟨1,1,[],[
  .ay (.cl 139 [(.aM .Add (.aM .Add (.ac<|cd 25 0x77726f6e67202320617267733a2073686f756c642062652022) ak)<|.ac [34]),(.an [(.ac cD),(.ac [87,82,79,78,71,65,82,71,83])])])]⟩
def DE:aR:=⟨1,1,[],[
  .aB (.aA .Lt (.ln [ak])<|.ah 3) [.ay<|.aZ (.ac [32,111,114,32]) .f2 [ak]] [],
  .ay (.aM .Add (.aM .Add (.aZ (.ac [44,32]) .f2 [(.aJ ak (.k .a5)<|.cm<|.ah 1)])<|.ac [44,32,111,114,32])<|.aE ak<|.cm<|.ah 1)]⟩
def DF:aR:=⟨6,3,[],[
  .aG 3 (.ag []),
  .b6 [4] false aK [.aB (.aA .Eq bc ai) [.ay bc] [],.aB (.cR (.aA .NotEq ai<|.ac [])<|.aZ bc .startswith [ai]) [.bF<|.aZ aV .dN [bc]] []],
  .aB (.aA .Eq (.ln [aV])<|.ah 1) [.ay<|.aE aV<|.ah 0] [],
  .aG 5 (.aB (.aA .Gt (.ln [aV])<|.ah 0) (.ac<|cd 10 0x616d626967756f757320)<|.ac [98,97,100,32]),
  .ca (.cl 139 [(.aM .Add (.aM .Add (.aM .Add (.aM .Add (.aM .Add bB ak)<|.ac [32,34]) ai)<|.ac<|cd 11 0x223a206d75737420626520)<|.cl 153 [aK]),(.an [(.ac cD),(.ac ie),(.ac [73,78,68,69,88]),ak,ai])])]⟩
def DG:aR:=⟨9,3,[],[
  .ev [3,4] aK,
  .aB (.aA .Lt (.ln [ai])<|.ah 2) [.ca<|.cl 146 [(.aM .Add aV<|.ac<|cd 21 0x20737562636f6d6d616e64203f617267202e2e2e3f)]] [],
  .aG 5 (.aE ai<|.ah 1),
  .aB (.aA .In bB bc) [.ay<|.bW (.aE bc bB) [ak,ai]] [],
  .aG 6 (.bW (.k<|.b5 "sorted") [bc]),
  .aG 7 (.ag []),
  .b6 [8] false b4 [.aB (.aZ eT .startswith [bB]) [.bF<|.aZ d3 .dN [eT]] []],
  .aB (.aA .Eq (.ln [d3])<|.ah 1) [.ay<|.bW (.aE bc<|.aE d3<|.ah 0) [ak,ai]] [],
  .ca (.cl 139 [(.aM .Add (.aM .Add (.aM .Add (.ac<|cd 33 0x756e6b6e6f776e206f7220616d626967756f757320737562636f6d6d616e642022) bB)<|.ac<|cd 11 0x223a206d75737420626520)<|.cl 153 [b4]),(.an [(.ac cD),(.ac ie),(.ac [83,85,66,67,79,77,77,65,78,68]),bB])])]⟩
def DH:aR:=⟨2,2,[],[
  .aB (.aA .NotEq (.ce ak jC)<|.ah 1) [.ay<|.k .a5] [],
  .aB (.aA .Eq (.ce ak jA)<|.ac []) [.cn ak jA<|.ce ak fH] [],
  .cn ak jA (.aM .Add (.aM .Add (.ce ak jA)<|.ac [10,32,32,32,32]) ai),
  .cn ak nN (.k<|.aP true)]⟩
def DI:aR:=⟨1,1,[],[
  .ay (.aA .In ak<|.an [(.ac [32]),(.ac [9]),(.ac [10]),(.ac [11]),(.ac [12]),(.ac [13])])]⟩
def DJ:aR:=⟨2,1,[],[
  .aB (.aA .NotEq (.ln [ak])<|.ah 1) [.ay<|.cm<|.ah 1] [],
  .aG 1 (.bW (.k<|.b5 "ord") [ak]),
  .aB (.fq .LtE .LtE (.ah 48) ai<|.ah 57) [.ay<|.aM .Sub ai<|.ah 48] [],
  .aB (.fq .LtE .LtE (.ah 97) ai<|.ah 122) [.ay<|.aM .Sub ai<|.ah 87] [],
  .aB (.fq .LtE .LtE (.ah 65) ai<|.ah 90) [.ay<|.aM .Sub ai<|.ah 55] [],
  .ay (.cm<|.ah 1)]⟩
def DK:aR:=⟨5,2,[],[
  .aB (.aA .Eq ak<|.ac []) [.ay<|.k .a5] [],
  .aG 2 (.ah 0),
  .b6 [3] false ak [.aG 4<|.cl 209 [aV],.aB (.dF (.aA .Lt bc<|.ah 0)<|.aA .GtE bc ai) [.ay<|.k .a5] [],.aG 2<|.aM .Add (.aM .Mult aK ai) bc],
  .ay aK]⟩
def DL:aR:=⟨1,1,[],[
  .aB (.aA .In ak<|.an [(.ac [120]),(.ac [88])]) [.ay<|.ah 16] [],
  .aB (.aA .In ak<|.an [(.ac [111]),(.ac [79])]) [.ay<|.ah 8] [],
  .aB (.aA .In ak<|.an [(.ac [98]),(.ac [66])]) [.ay<|.ah 2] [],
  .aB (.aA .In ak<|.an [(.ac [100]),(.ac [68])]) [.ay<|.ah 10] [],
  .ay (.ah 0)]⟩
def DM:aR:=⟨6,1,[],[
  .ev [1,2] (.an [(.ah 0),(.ln [ak])]),
  .dO (.cR (.aA .Lt ai aK)<|.cl 202 [(.aE ak ai)]) [.c1 1 .Add<|.ah 1],
  .dO (.cR (.aA .Lt ai aK)<|.cl 202 [(.aE ak<|.aM .Sub aK<|.ah 1)]) [.c1 2 .Sub<|.ah 1],
  .aG 3 (.k<|.aP false),
  .aB (.cR (.aA .Lt ai aK)<|.aA .In (.aE ak ai)<|.an [(.ac [43]),(.ac [45])]) [.aG 3<|.aA .Eq (.aE ak ai)<|.ac [45],.c1 1 .Add<|.ah 1] [],
  .aG 4 (.ah 0),
  .aB (.cR (.aA .Gt (.aM .Sub aK ai)<|.ah 2)<|.aA .Eq (.aE ak ai)<|.ac [48]) [.aG 4<|.cl 223 [(.aE ak<|.aM .Add ai<|.ah 1)]] [],
  .aB (.aA .Gt bc<|.ah 0) [.aG 5<|.cl 216 [(.aJ ak (.aM .Add ai<|.ah 2) aK),bc]] [.aG 5<|.cl 216 [(.aJ ak ai aK),(.ah 10)]],
  .aB (.aA .Is bB<|.k .a5) [.ay<|.k .a5] [],
  .ay (.aB aV (.cm bB) bB)]⟩
def DN:aR:=⟨2,1,[],[
  .aG 1 (.cl 230 [ak]),
  .aB (.aA .Is ai<|.k .a5) [.ca<|.cl 139 [(.aM .Add (.aM .Add (.ac tw) ak)<|.ac [34]),(.an [(.ac cD),(.ac dX),(.ac [78,85,77,66,69,82])])]] [],
  .ay ai]⟩
def DO:aR:=⟨4,1,[],[
  .aG 1 (.cl 230 [ak]),
  .aB (.aA .IsNot ai<|.k .a5) [.ay<|.aA .NotEq ai<|.ah 0] [],
  .aG 2 (.aZ ak .lower []),
  .aB (.aA .In aK<|.an [(.ac []),(.ac [111])]) [.ay<|.k .a5] [],
  .b6 [3] false (.an [(.ac [116,114,117,101]),(.ac g4),(.ac [111,110])]) [.aB (.aZ aV .startswith [aK]) [.ay<|.k<|.aP true] []],
  .b6 [3] false (.an [(.ac [102,97,108,115,101]),(.ac [110,111]),(.ac [111,102,102])]) [.aB (.aZ aV .startswith [aK]) [.ay<|.k<|.aP false] []],
  .ay (.k .a5)]⟩
def DP:aR:=⟨2,1,[],[
  .aG 1 (.cl 244 [ak]),
  .aB (.aA .Is ai<|.k .a5) [.ca<|.cl 139 [(.aM .Add (.aM .Add (.ac<|cd 32 0x657870656374656420626f6f6c65616e2076616c75652062757420676f742022) ak)<|.ac [34]),(.an [(.ac cD),(.ac dX),(.ac [66,79,79,76,69,65,78])])]] [],
  .ay ai]⟩
def DQ:aR:=⟨6,2,[],[
  .aG 2 (.aM .Add ai<|.ah 3),
  .aB (.aA .Eq (.aE ak ai)<|.ac [117]) [.aG 2<|.aM .Add ai<|.ah 5] [.aB (.aA .Eq (.aE ak ai)<|.ac [85]) [.aG 2<|.aM .Add ai<|.ah 9] []],
  .aG 3 (.aM .Add ai<|.ah 1),
  .aG 4 (.ah 0),
  .dO (.cR (.aA .Lt aV aK)<|.cR (.aA .Lt aV<|.ln [ak])<|.aA .LtE bc<|.ah 69631) [.aG 5<|.cl 209 [(.aE ak aV)],.aB (.dF (.aA .Lt bB<|.ah 0)<|.aA .Gt bB<|.ah 15) [.brk] [],.aG 4<|.aM .Add (.aM .Mult bc<|.ah 16) bB,.c1 3 .Add<|.ah 1],
  .aB (.aA .Eq aV<|.aM .Add ai<|.ah 1) [.ay<|.an [(.aE ak ai),aV]] [],
  .ay (.an [(.bW (.k<|.b5 "chr") [bc]),aV])]⟩
def DR:aR:=⟨5,2,[],[
  .aG 2 ai,
  .aG 3 (.ah 0),
  .dO (.cR (.aA .Lt aK<|.aM .Add ai<|.ah 3)<|.cR (.aA .Lt aK<|.ln [ak])<|.aA .Lt aV<|.ah 32) [.aG 4<|.cl 209 [(.aE ak aK)],.aB (.dF (.aA .Lt bc<|.ah 0)<|.aA .Gt bc<|.ah 7) [.brk] [],.aG 3<|.aM .Add (.aM .Mult aV<|.ah 8) bc,.c1 2 .Add<|.ah 1],
  .ay (.an [(.bW (.k<|.b5 "chr") [aV]),aK])]⟩
def DS:aR:=⟨5,2,[],[
  .aG 2 (.aJ ak (.aM .Add ai<|.ah 1)<|.aM .Add ai<|.ah 2),
  .aB (.aA .Eq aK<|.ac []) [.ay<|.an [(.ac [92]),(.aM .Add ai<|.ah 1)]] [],
  .aG 3 (.aZ (.ac [97,98,102,110,114,116,118]) .find [aK]),
  .aB (.aA .GtE aV<|.ah 0) [.ay<|.an [(.aE (.ac [7,8,12,10,13,9,11]) aV),(.aM .Add ai<|.ah 2)]] [],
  .aB (.aA .Eq aK<|.ac [10]) [.aG 4<|.aM .Add ai<|.ah 2,.dO (.aA .In (.aJ ak bc<|.aM .Add bc<|.ah 1)<|.an [(.ac [32]),(.ac [9])]) [.c1 4 .Add<|.ah 1],.ay<|.an [(.ac [32]),bc]] [],
  .aB (.aA .In aK<|.an [(.ac [120]),(.ac [117]),(.ac [85])]) [.ay<|.cl 258 [ak,(.aM .Add ai<|.ah 1)]] [],
  .aB (.aA .In aK<|.an [(.ac [48]),(.ac [49]),(.ac [50]),(.ac [51]),(.ac [52]),(.ac [53]),(.ac [54]),(.ac [55])]) [.ay<|.cl 265 [ak,(.aM .Add ai<|.ah 1)]] [],
  .ay (.an [aK,(.aM .Add ai<|.ah 2)])]⟩
def DT:aR:=⟨4,3,[],[
  .aB (.dF (.aA .GtE ai<|.ln [ak])<|.cl 202 [(.aE ak ai)]) [.ay<|.k .a5] [],
  .aG 3 ai,
  .dO (.cR (.aA .Lt aV<|.ln [ak])<|.cR (.aA .Lt aV<|.aM .Add ai<|.ah 20)<|.eG<|.cl 202 [(.aE ak aV)]) [.c1 3 .Add<|.ah 1],
  .ca (.cl 139 [(.aM .Add (.aM .Add (.aM .Add (.aM .Add (.ac pX) aK)<|.ac pY)<|.aJ ak ai aV)<|.ac pW),(.an [(.ac cD),(.ac dX),(.ac hI),(.ac [74,85,78,75])])])]⟩
def DU:aR:=⟨5,2,[],[
  .ev [2,3] (.an [(.ah 1),ai]),
  .dO (.aA .Lt aV<|.ln [ak]) [.aG 4<|.aE ak aV,.aB (.aA .Eq bc<|.ac [92]) [.c1 3 .Add<|.ah 1] [.aB (.aA .Eq bc<|.ac [123]) [.c1 2 .Add<|.ah 1] [.aB (.aA .Eq bc<|.ac [125]) [.c1 2 .Sub<|.ah 1,.aB (.aA .Eq aK<|.ah 0) [.bF<|.cl 279 [ak,(.aM .Add aV<|.ah 1),(.ac [98,114,97,99,101,115])],.ay<|.an [(.aJ ak ai aV),(.aM .Add aV<|.ah 1)]] []] []]],.c1 3 .Add<|.ah 1],
  .ca (.cl 139 [(.ac tv),(.an [(.ac cD),(.ac dX),(.ac hI),(.ac [66,82,65,67,69])])])]⟩
def DV:aR:=⟨4,2,[],[
  .aG 2 (.ag []),
  .dO (.aA .Lt ai<|.ln [ak]) [.aG 3<|.aE ak ai,.aB (.aA .Eq aV<|.ac [92]) [.ev [3,1]<|.cl 272 [ak,ai]] [.aB (.aA .Eq aV<|.ac [34]) [.bF<|.cl 279 [ak,(.aM .Add ai<|.ah 1),(.ac [113,117,111,116,101,115])],.ay<|.an [(.aZ (.ac []) .f2 [aK]),(.aM .Add ai<|.ah 1)]] [.c1 1 .Add<|.ah 1]],.bF<|.aZ aK .dN [aV]],
  .ca (.cl 139 [(.ac ts),(.an [(.ac cD),(.ac dX),(.ac hI),(.ac [81,85,79,84,69])])])]⟩
def DW:aR:=⟨4,2,[],[
  .aG 2 (.ag []),
  .dO (.cR (.aA .Lt ai<|.ln [ak])<|.eG<|.cl 202 [(.aE ak ai)]) [.aG 3<|.aE ak ai,.aB (.aA .Eq aV<|.ac [92]) [.ev [3,1]<|.cl 272 [ak,ai]] [.c1 1 .Add<|.ah 1],.bF<|.aZ aK .dN [aV]],
  .ay (.an [(.aZ (.ac []) .f2 [aK]),ai])]⟩
def DX:aR:=⟨2,2,[],[
  .dO (.cR (.aA .Lt ai<|.ln [ak])<|.cl 202 [(.aE ak ai)]) [.c1 1 .Add<|.ah 1],
  .aB (.aA .GtE ai<|.ln [ak]) [.ay<|.k .a5] [],
  .aB (.aA .Eq (.aE ak ai)<|.ac [123]) [.ay<|.cl 286 [ak,(.aM .Add ai<|.ah 1)]] [],
  .aB (.aA .Eq (.aE ak ai)<|.ac [34]) [.ay<|.cl 293 [ak,(.aM .Add ai<|.ah 1)]] [],
  .ay (.cl 300 [ak,ai])]⟩
def DY:aR:=⟨3,1,[],[
  .aG 1 (.ag []),
  .aG 2 (.cl 307 [ak,(.ah 0)]),
  .dO (.aA .IsNot aK<|.k .a5) [.bF<|.aZ ai .dN [(.aE aK<|.ah 0)],.aG 2<|.cl 307 [ak,(.aE aK<|.ah 1)]],
  .ay ai]⟩
def DZ:aR:=⟨10,2,[],[
  .aB (.aA .Eq ak<|.ac []) [.ay<|.ac kD] [],
  .aG 2 (.aE ak<|.ah 0),
  .aG 3 (.aA .In aK<|.an [(.ac [123]),(.ac [34])]),
  .aG 4 (.cR ai<|.aA .Eq aK<|.ac [35]),
  .aG 5 (.dF aV bc),
  .aG 6 (.k<|.aP false),
  .ev [7,8] (.an [(.ah 0),(.ah 0)]),
  .dO (.aA .Lt eT<|.ln [ak]) [.aG 9<|.aE ak eT,.c1 8 .Add<|.ah 1,.aB (.aA .Eq gx<|.ac [123]) [.c1 7 .Add<|.ah 1] [.aB (.aA .Eq gx<|.ac [125]) [.c1 7 .Sub<|.ah 1,.aB (.aA .Lt d3<|.ah 0) [.ay<|.ac gF] []] [.aB (.aA .In gx<|.an [(.ac [93]),(.ac [34])]) [.aG 3<|.k<|.aP true,.aG 6<|.k<|.aP true] [.aB (.dF (.aA .In gx<|.an [(.ac [91]),(.ac [36]),(.ac [59]),(.ac [92])])<|.cl 202 [gx]) [.aG 3<|.k<|.aP true,.aG 5<|.k<|.aP true,.aB (.aA .Eq gx<|.ac [92]) [.aB (.dF (.aA .Eq eT<|.ln [ak])<|.aA .Eq (.aE ak eT)<|.ac [10]) [.ay<|.ac gF] [],.aB (.aA .In (.aE ak eT)<|.an [(.ac [123]),(.ac [125]),(.ac [92])]) [.c1 8 .Add<|.ah 1] []] []] []]]]],
  .aB (.aA .Gt d3<|.ah 0) [.ay<|.ac gF] [],
  .aB aV [.ay<|.aB (.cR b4<|.eG bB) (.ac jD)<|.ac kD] [],
  .ay (.aB bc (.ac kD)<|.ac gG)]⟩
def D0:aR:=⟨3,2,[],[
  .aG 2 (.aZ (.ac [12,10,13,9,11]) .find [ak]),
  .aB (.aA .GtE aK<|.ah 0) [.ay<|.aM .Add (.ac [92])<|.aE (.ac [102,110,114,116,118]) aK] [],
  .aB (.dF (.aA .In ak<|.an [(.ac [93]),(.ac [91]),(.ac [36]),(.ac [59]),(.ac [32]),(.ac [92]),(.ac [34])])<|.cR ai<|.aA .In ak<|.an [(.ac [123]),(.ac [125])]) [.ay<|.aM .Add (.ac [92]) ak] [],
  .ay ak]⟩
def D1:aR:=⟨5,2,[(.aP false)],[
  .aG 2 (.cl 321 [ak,ai]),
  .aB (.aA .Eq aK<|.ac gG) [.ay ak] [],
  .aB (.aA .Eq aK<|.ac kD) [.ay<|.aM .Add (.aM .Add (.ac [123]) ak)<|.ac [125]] [],
  .aG 3 (.ag []),
  .aB (.cR ai<|.aA .Eq (.aE ak<|.ah 0)<|.ac [35]) [.bF<|.aZ aV .dN [(.ac [92])]] [],
  .b6 [4] false ak [.bF<|.aZ aV .dN [(.cl 328 [bc,(.aA .Eq aK<|.ac gF)])]],
  .ay (.aZ (.ac []) .f2 [aV])]⟩
def D2:aR:=⟨3,1,[],[
  .aG 1 (.ag []),
  .b6 [2] false ak [.bF<|.aZ ai .dN [(.cl 336 [aK,(.aA .Eq (.ln [ai])<|.ah 0)])]],
  .ay (.aZ (.ac [32]) .f2 [ai])]⟩
def D3:aR:=⟨2,1,[],[
  .aG 1 (.ce ak fH),
  .aB (.aZ ai .startswith [(.ac [108,105,115,116,32])]) [.aG 1<|.aM .Add (.ac hH)<|.aJ ai (.ah 4)<|.k .a5] [.aB (.aZ ai .endswith [(.ac [32,108,105,115,116])]) [.aG 1<|.aM .Add (.aJ ai (.k .a5)<|.cm<|.ah 4)<|.ac hH] []],
  .ay (.cl 139 [ai,(.an [(.ac cD),(.ac dX),(.ac iQ),(.aE (.ce ak lS)<|.ah 3)])])]⟩
def D4:aR:=⟨5,1,[],[
  .f3 [.aG 1<|.cl 314 [ak]] (some 2) [.ca<|.cl 350 [aK]],
  .aB (.aA .Eq (.aM .Mod (.ln [ai])<|.ah 2)<|.ah 1) [.ca<|.cl 139 [(.ac tu),(.an [(.ac cD),(.ac dX),(.ac iQ)])]] [],
  .aG 3 (.av [] []),
  .b6 [4] false (.bW (.k<|.cg "range") [(.ah 0),(.ln [ai]),(.ah 2)]) [.c0 aV (.aE ai bc)<|.aE ai<|.aM .Add bc<|.ah 1],
  .ay aV]⟩
def D5:aR:=⟨3,1,[],[
  .aG 1 (.ag []),
  .b6 [2] false ak [.bF<|.aZ ai .dN [aK],.bF<|.aZ ai .dN [(.aE ak aK)]],
  .ay (.cl 343 [ai])]⟩
def D6:aR:=⟨1,1,[],[
  .ay (.cl 139 [(.aM .Add (.aM .Add (.ac [107,101,121,32,34]) ak)<|.ac tx),(.an [(.ac cD),(.ac ie),(.ac [68,73,67,84]),ak])])]⟩
def D7:aR:=⟨6,2,[],[
  .aG 2 ak,
  .aG 3 (.aM .Sub (.ln [ai])<|.ah 1),
  .b6 [4] false (.bW (.k<|.cg "range") [(.ln [ai])]) [.aB (.aA .NotIn (.aE ai bc) aK) [.ca<|.cl 371 [(.aE ai bc)]] [],.aG 5<|.aE aK<|.aE ai bc,.aB (.aA .Eq bc aV) [.ay bB] [],.aG 2<|.cl 357 [bB]],
  .ay (.cl 364 [aK])]⟩
def D8:aR:=⟨5,2,[],[
  .aG 2 (.ag [(.cl 357 [ak])]),
  .b6 [3] false ai [.aG 4<|.aE aK<|.cm<|.ah 1,.aB (.aA .NotIn aV bc) [.ay aK] [],.bF<|.aZ aK .dN [(.cl 357 [(.aE bc aV)])]],
  .ay aK]⟩
def D9:aR:=⟨3,2,[],[
  .b6 [2] false (.bW (.k<|.cg "range") [(.aM .Sub (.ln [ak])<|.ah 1),(.ah 0),(.cm<|.ah 1)]) [.c0 (.aE ak<|.aM .Sub aK<|.ah 1) (.aE ai<|.aM .Sub aK<|.ah 1)<|.cl 364 [(.aE ak aK)]],
  .ay (.cl 364 [(.aE ak<|.ah 0)])]⟩
def Ea:aR:=⟨4,3,[],[
  .aG 3 (.cl 385 [ak,(.aJ ai (.k .a5)<|.cm<|.ah 1)]),
  .dO (.aA .Lt (.ln [aV])<|.ln [ai]) [.bF<|.aZ aV .dN [(.av [] [])]],
  .c0 (.aE aV<|.cm<|.ah 1) (.aE ai<|.cm<|.ah 1) aK,
  .ay (.cl 392 [aV,ai])]⟩
def Eb:aR:=⟨3,2,[],[
  .aG 2 (.cl 385 [ak,(.aJ ai (.k .a5)<|.cm<|.ah 1)]),
  .aB (.aA .Lt (.ln [aK])<|.ln [ai]) [.ca<|.cl 371 [(.aE ai<|.aM .Sub (.ln [aK])<|.ah 1)]] [],
  .bF (.aZ (.aE aK<|.cm<|.ah 1) .pop [(.aE ai<|.cm<|.ah 1),(.k .a5)]),
  .ay (.cl 392 [aK,ai])]⟩
def Ec:aR:=⟨7,3,[],[
  .aG 3 (.ln [ak]),
  .c1 1 .Add (.ah 1),
  .dO (.cR (.aA .Lt ai aV)<|.aA .NotEq (.aE ak ai)<|.ac [93]) [.aG 4<|.aE ak ai,.aG 5 bc,.c1 1 .Add<|.ah 1,.aB (.aA .Eq (.aJ ak ai<|.aM .Add ai<|.ah 1)<|.ac [45]) [.aB (.aA .GtE (.aM .Add ai<|.ah 1) aV) [.ay<|.an [(.k<|.aP false),aV]] [],.aG 5<|.aE ak<|.aM .Add ai<|.ah 1,.c1 1 .Add<|.ah 2] [],.aB (.dF (.cR (.aA .LtE bc aK)<|.aA .LtE aK bB)<|.cR (.aA .LtE bB aK)<|.aA .LtE aK bc) [.aG 6<|.aZ ak .find [(.ac [93]),ai],.aB (.aA .Lt b4<|.ah 0) [.ay<|.an [(.k<|.aP true),aV]] [],.ay<|.an [(.k<|.aP true),(.aM .Add b4<|.ah 1)]] []],
  .aB (.aA .Lt ai aV) [.ay<|.an [(.k<|.aP false),(.aM .Add ai<|.ah 1)]] [],
  .ay (.an [(.k<|.aP false),aV])]⟩
def Ed:aR:=⟨5,3,[],[
  .aB (.aA .Eq (.aE ak ai)<|.ac [63]) [.ay<|.aM .Add ai<|.ah 1] [],
  .aB (.aA .Eq (.aE ak ai)<|.ac [91]) [.ev [3,4]<|.cl 413 [ak,ai,aK],.aB aV [.ay bc] [],.ay<|.cm<|.ah 1] [],
  .aB (.aA .Eq (.aE ak ai)<|.ac [92]) [.c1 1 .Add<|.ah 1] [],
  .aB (.aA .Eq (.aJ ak ai<|.aM .Add ai<|.ah 1) aK) [.ay<|.aM .Add ai<|.ah 1] [],
  .ay (.cm<|.ah 1)]⟩
def Ee:aR:=⟨3,3,[],[
  .c0 aK ai (.k<|.aP true),
  .dO (.aA .Eq (.aJ ak ai<|.aM .Add ai<|.ah 1)<|.ac [42]) [.c1 1 .Add<|.ah 1,.c0 aK ai<|.k<|.aP true]]⟩
def Ef:aR:=⟨9,3,[(.aP false)],[
  .aB aK [.aG 0<|.cl 434 [ak],.aG 1<|.cl 434 [ai]] [],
  .aG 3 (.ln [ak]),
  .aG 4 .gk,
  .bF (.cl 427 [ak,(.ah 0),bc]),
  .b6 [5] false ai [.aB (.cR (.aA .Eq (.aJ ak (.cm<|.ah 1)<|.k .a5)<|.ac [42])<|.aA .In (.aM .Sub aV<|.ah 1) bc) [.ay<|.k<|.aP true] [],.aG 6 .gk,.b6 [7] false bc [.aB (.aA .Eq (.aJ ak d3<|.aM .Add d3<|.ah 1)<|.ac [42]) [.bF<|.cl 427 [ak,d3,b4]] [.aB (.aA .Lt d3 aV) [.aG 8<|.cl 420 [ak,d3,bB],.aB (.aA .GtE eT<|.ah 0) [.bF<|.cl 427 [ak,eT,b4]] []] []]],.aB (.eG b4) [.ay<|.k<|.aP false] [],.aG 4 b4],
  .ay (.aA .In aV bc)]⟩
def Eg:aR:=⟨4,3,[],[
  .b6 [3] false (.bW (.k<|.cg "range") [aK,(.ln [ai]),(.ah 2)]) [.c0 ak (.aE ai aV)<|.aE ai<|.aM .Add aV<|.ah 1]]⟩
def Eh:aR:=⟨3,2,[],[
  .aB (.dF (.aA .Lt (.ln [ai])<|.ah 3)<|.aA .Eq (.aM .Mod (.ln [ai])<|.ah 2)<|.ah 0) [.ca<|.cl 146 [(.ac<|cd 39 0x64696374207265706c6163652064696374696f6e617279203f6b65792076616c7565202e2e2e3f)]] [],
  .aG 2 (.cl 357 [(.aE ai<|.ah 2)]),
  .bF (.cl 449 [aK,ai,(.ah 3)]),
  .ay (.cl 364 [aK])]⟩
def Ei:aR:=⟨4,2,[],[
  .aB (.aA .Lt (.ln [ai])<|.ah 3) [.ca<|.cl 146 [(.ac<|cd 32 0x646963742072656d6f76652064696374696f6e617279203f6b6579202e2e2e3f)]] [],
  .aG 2 (.cl 357 [(.aE ai<|.ah 2)]),
  .b6 [3] false (.aJ ai (.ah 3)<|.k .a5) [.bF<|.aZ aK .pop [aV,(.k .a5)]],
  .ay (.cl 364 [aK])]⟩
def Ej:aR:=⟨7,2,[],[
  .aB (.aA .Lt (.ln [ai])<|.ah 3) [.ay<|.ac []] [],
  .aG 2 (.cl 357 [(.aE ai<|.ah 2)]),
  .aG 3 (.k<|.aP false),
  .b6 [4] false (.aJ ai (.ah 3)<|.k .a5) [.aG 5<|.cl 357 [bc],.b6 [6] false bB [.c0 aK b4<|.aE bB b4,.aG 3<|.k<|.aP true]],
  .aB (.eG aV) [.ay<|.aE ai<|.ah 2] [],
  .ay (.cl 364 [aK])]⟩
def Ek:aR:=⟨2,2,[],[
  .aB (.aA .Lt (.ln [ai])<|.ah 3) [.ca<|.cl 146 [(.ac<|cd 29 0x64696374206765742064696374696f6e617279203f6b6579202e2e2e3f)]] [],
  .ay (.cl 378 [(.cl 357 [(.aE ai<|.ah 2)]),(.aJ ai (.ah 3)<|.k .a5)])]⟩
def El:aR:=⟨4,2,[],[
  .aB (.aA .Lt (.ln [ai])<|.ah 5) [.aG 2<|.aB (.aZ (.aE ai<|.ah 1) .startswith [(.ac [103,101,116,119])]) (.ac nM)<|.ac ky,.ca<|.cl 146 [(.aM .Add (.aM .Add (.ac [100,105,99,116,32]) aK)<|.ac<|cd 33 0x2064696374696f6e617279203f6b6579202e2e2e3f206b65792064656661756c74)]] [],
  .aG 3 (.cl 385 [(.aE ai<|.ah 2),(.aJ ai (.ah 3)<|.cm<|.ah 2)]),
  .aB (.aA .Lt (.ln [aV])<|.aM .Sub (.ln [ai])<|.ah 4) [.ay<|.aE ai<|.cm<|.ah 1] [],
  .ay (.aZ (.aE aV<|.cm<|.ah 1) .get [(.aE ai<|.cm<|.ah 2),(.aE ai<|.cm<|.ah 1)])]⟩
def Em:aR:=⟨2,2,[],[
  .aB (.aA .Lt (.ln [ai])<|.ah 4) [.ca<|.cl 146 [(.ac<|cd 36 0x64696374206578697374732064696374696f6e617279206b6579203f6b6579202e2e2e3f)]] [],
  .f3 [.bF<|.cl 378 [(.cl 357 [(.aE ai<|.ah 2)]),(.aJ ai (.ah 3)<|.k .a5)]] none [.ay<|.ac [48]],
  .ay (.ac [49])]⟩
def En:aR:=⟨4,2,[],[
  .aB (.aA .NotIn (.ln [ai])<|.an [(.ah 3),(.ah 4)]) [.ca<|.cl 146 [(.ac<|cd 30 0x64696374206b6579732064696374696f6e617279203f7061747465726e3f)]] [],
  .aG 2 (.ag []),
  .b6 [3] false (.cl 357 [(.aE ai<|.ah 2)]) [.aB (.dF (.aA .Eq (.ln [ai])<|.ah 3)<|.cl 442 [(.aE ai<|.ah 3),aV]) [.bF<|.aZ aK .dN [aV]] []],
  .ay (.cl 343 [aK])]⟩
def Eo:aR:=⟨5,2,[],[
  .aB (.aA .NotIn (.ln [ai])<|.an [(.ah 3),(.ah 4)]) [.ca<|.cl 146 [(.ac<|cd 32 0x646963742076616c7565732064696374696f6e617279203f7061747465726e3f)]] [],
  .aG 2 (.cl 357 [(.aE ai<|.ah 2)]),
  .aG 3 (.ag []),
  .b6 [4] false aK [.aB (.dF (.aA .Eq (.ln [ai])<|.ah 3)<|.cl 442 [(.aE ai<|.ah 3),(.aE aK bc)]) [.bF<|.aZ aV .dN [(.aE aK bc)]] []],
  .ay (.cl 343 [aV])]⟩
def Ep:aR:=⟨2,2,[],[
  .f3 [.ay<|.aZ ak (.bE fl) [ai]] none [.ay<|.k .a5]]⟩
def Er:aR:=⟨3,2,[],[
  .aG 2 (.cl 526 [ak,ai]),
  .aB (.aA .Is aK<|.k .a5) [.ay<|.ac []] [],
  .ay aK]⟩
def Es:aR:=⟨5,2,[],[
  .aB (.aA .Lt (.ln [ai])<|.ah 4) [.ca<|.cl 146 [(.ac<|cd 39 0x6469637420617070656e6420646963745661724e616d65206b6579203f76616c7565202e2e2e3f)]] [],
  .aG 2 (.cl 533 [ak,(.aE ai<|.ah 2)]),
  .aG 3 (.cl 357 [aK]),
  .aG 4 (.aE ai<|.ah 3),
  .aB (.dF (.aA .Gt (.ln [ai])<|.ah 4)<|.aA .NotIn bc aV) [.c0 aV bc<|.aM .Add (.aZ aV .get [bc,(.ac [])])<|.aZ (.ac []) .f2 [(.aJ ai (.ah 4)<|.k .a5)],.aG 2<|.cl 364 [aV]] [],
  .ay (.aZ ak (.bE dK) [(.aE ai<|.ah 2),aK])]⟩
def Et:aR:=⟨4,2,[],[
  .aB (.aA .Lt (.ln [ai])<|.ah 4) [.ca<|.cl 146 [(.ac<|cd 40 0x64696374206c617070656e6420646963745661724e616d65206b6579203f76616c7565202e2e2e3f)]] [],
  .aG 2 (.cl 357 [(.cl 533 [ak,(.aE ai<|.ah 2)])]),
  .aG 3 (.aE ai<|.ah 3),
  .aB (.aA .NotIn aV aK) [.c0 aK aV<|.cl 343 [(.aJ ai (.ah 4)<|.k .a5)]] [.aB (.aA .Gt (.ln [ai])<|.ah 4) [.c0 aK aV<|.cl 343 [(.aM .Add (.cl 314 [(.aE aK aV)])<|.aJ ai (.ah 4)<|.k .a5)]] []],
  .ay (.aZ ak (.bE dK) [(.aE ai<|.ah 2),(.cl 364 [aK])])]⟩
def Eu:aR:=⟨6,2,[],[
  .aB (.aA .NotIn (.ln [ai])<|.an [(.ah 4),(.ah 5)]) [.ca<|.cl 146 [(.ac<|cd 37 0x6469637420696e637220646963745661724e616d65206b6579203f696e6372656d656e743f)]] [],
  .aG 2 (.cl 357 [(.cl 533 [ak,(.aE ai<|.ah 2)])]),
  .aG 3 (.aE ai<|.ah 3),
  .aG 4 (.ac [49]),
  .aB (.aA .Eq (.ln [ai])<|.ah 5) [.aG 4<|.aE ai<|.ah 4] [],
  .aB (.aA .In aV aK) [.aG 5<|.cl 237 [(.aE aK aV)],.c0 aK aV<|.bW (.k<|.cg "str") [(.aM .Add bB<|.cl 237 [bc])]] [.bF<|.cl 237 [bc],.c0 aK aV bc],
  .ay (.aZ ak (.bE dK) [(.aE ai<|.ah 2),(.cl 364 [aK])])]⟩
def Ev:aR:=⟨2,2,[],[
  .aB (.aA .Lt (.ln [ai])<|.ah 5) [.ca<|.cl 146 [(.ac<|cd 40 0x646963742073657420646963745661724e616d65206b6579203f6b6579202e2e2e3f2076616c7565)]] [],
  .ay (.aZ ak (.bE dK) [(.aE ai<|.ah 2),(.cl 399 [(.cl 533 [ak,(.aE ai<|.ah 2)]),(.aJ ai (.ah 3)<|.cm<|.ah 1),(.aE ai<|.cm<|.ah 1)])])]⟩
def Ew:aR:=⟨2,2,[],[
  .aB (.aA .Lt (.ln [ai])<|.ah 4) [.ca<|.cl 146 [(.ac<|cd 36 0x6469637420756e73657420646963745661724e616d65206b6579203f6b6579202e2e2e3f)]] [],
  .ay (.aZ ak (.bE dK) [(.aE ai<|.ah 2),(.cl 406 [(.cl 533 [ak,(.aE ai<|.ah 2)]),(.aJ ai (.ah 3)<|.k .a5)])])]⟩
def Ex:aR:=⟨3,2,[],[
  .aG 2 (.cl 314 [ak]),
  .aB (.aA .NotEq (.ln [aK])<|.ah 2) [.ca<|.cl 139 [(.ac<|cd 36 0x6d75737420686176652065786163746c792074776f207661726961626c65206e616d6573),(.an [(.ac cD),(.ac [83,89,78,84,65,88]),(.ac hH),ai])]] [],
  .ay aK]⟩
def Ey:aR:=⟨7,6,[],[
  .bF (.aZ ak (.bE dK) [(.aE ai<|.ah 0),aK]),
  .bF (.aZ ak (.bE dK) [(.aE ai<|.ah 1),aV]),
  .f3 [.ay<|.an [(.ah 0),(.aZ ak (.bE kH) [bc])]] (some 6) [.aB (.aA .In (.ce b4 jC)<|.an [(.ah 3),(.ah 4)]) [.ay<|.an [(.ce b4 jC),(.ac [])]] [],.bF<|.cl 181 [b4,(.aM .Add (.aM .Add (.aM .Add (.aM .Add (.ac [40,34,100,105,99,116,32]) bB)<|.ac [32,108,105,110,101,32])<|.bW (.k<|.cg "str") [(.ce b4 kE)])<|.ac [41])],.cn b4 kE<|.ah 0,.ca b4]]⟩
def Ez:aR:=⟨7,2,[],[
  .aB (.aA .NotEq (.ln [ai])<|.ah 5) [.ca<|.cl 146 [(.ac<|cd 52 0x6469637420666f72207b6b65795661724e616d652076616c75655661724e616d657d2064696374696f6e61727920736372697074)]] [],
  .aG 2 (.cl 575 [(.aE ai<|.ah 2),(.ac kI)]),
  .aG 3 (.cl 357 [(.aE ai<|.ah 3)]),
  .b6 [4] false aV [.ev [5,6]<|.cl 582 [ak,aK,bc,(.aE aV bc),(.aE ai<|.ah 4),(.ac [102,111,114,34,32,98,111,100,121])],.aB (.aA .Eq bB<|.ah 3) [.ay<|.ac []] []],
  .ay (.ac [])]⟩
def EA:aR:=⟨8,2,[],[
  .aB (.aA .NotEq (.ln [ai])<|.ah 5) [.ca<|.cl 146 [(.ac<|cd 52 0x64696374206d6170207b6b65795661724e616d652076616c75655661724e616d657d2064696374696f6e61727920736372697074)]] [],
  .aG 2 (.cl 575 [(.aE ai<|.ah 2),(.ac jG)]),
  .aG 3 (.cl 357 [(.aE ai<|.ah 3)]),
  .aG 4 (.av [] []),
  .b6 [5] false aV [.ev [6,7]<|.cl 582 [ak,aK,bB,(.aE aV bB),(.aE ai<|.ah 4),(.ac [109,97,112,34,32,98,111,100,121])],.aB (.aA .Eq b4<|.ah 3) [.ay<|.cl 364 [bc]] [],.aB (.aA .Eq b4<|.ah 0) [.c0 bc (.aZ ak (.bE fl) [(.aE aK<|.ah 0)]) d3] []],
  .ay (.cl 364 [bc])]⟩
def EB:aR:=⟨8,2,[],[
  .aB (.aA .NotEq (.ln [ai])<|.ah 6) [.ca<|.cl 146 [(.ac<|cd 68 0x646963742066696c7465722064696374696f6e61727920736372697074207b6b65795661724e616d652076616c75655661724e616d657d2066696c746572536372697074)]] [],
  .aG 2 (.cl 575 [(.aE ai<|.ah 4),(.ac gg)]),
  .aG 3 (.cl 357 [(.aE ai<|.ah 2)]),
  .aG 4 (.av [] []),
  .b6 [5] false aV [.ev [6,7]<|.cl 582 [ak,aK,bB,(.aE aV bB),(.aE ai<|.ah 5),(.ac<|cd 14 0x66696c7465722220736372697074)],.aB (.aA .Eq b4<|.ah 3) [.ay<|.cl 364 [bc]] [],.aB (.cR (.aA .Eq b4<|.ah 0)<|.cl 251 [d3]) [.c0 bc bB<|.aE aV bB] []],
  .ay (.cl 364 [bc])]⟩
def EC:aR:=⟨3,2,[],[
  .b6 [2] false ak [.aB (.cl 442 [aK,ai]) [.ay<|.k<|.aP true] []],
  .ay (.k<|.aP false)]⟩
def ED:aR:=⟨7,2,[],[
  .aB (.aA .Lt (.ln [ai])<|.ah 4) [.ca<|.cl 146 [(.ac<|cd 43 0x646963742066696c7465722064696374696f6e6172792066696c74657254797065203f617267202e2e2e3f)]] [],
  .aG 2 (.cl 160 [(.ac [102,105,108,116,101,114,84,121,112,101]),(.aE ai<|.ah 3),(.an [(.ac [107,101,121]),(.ac lU),(.ac fH)])]),
  .aB (.aA .Eq aK<|.ac lU) [.ay<|.cl 603 [ak,ai]] [],
  .aG 3 (.cl 357 [(.aE ai<|.ah 2)]),
  .aG 4 (.av [] []),
  .b6 [5] false aV [.aG 6 bB,.aB (.aA .Eq aK<|.ac fH) [.aG 6<|.aE aV bB] [],.aB (.cl 610 [(.aJ ai (.ah 4)<|.k .a5),b4]) [.c0 bc bB<|.aE aV bB] []],
  .ay (.cl 364 [bc])]⟩
def EE:aR:=⟨11,5,[],[
  .aG 5 (.cl 526 [ak,ai]),
  .aB (.aA .Is bB<|.k .a5) [.ay<|.k .a5] [],
  .aG 6 (.cl 385 [bB,aK]),
  .aB (.aA .LtE (.ln [b4])<|.ln [aK]) [.ay<|.k .a5] [],
  .aG 7 (.aE b4<|.cm<|.ah 1),
  .aG 8 (.aA .Gt (.ln [aK])<|.ah 0),
  .b6 [9] false (.bW (.k<|.cg "range") [(.ln [aV])]) [.aG 10<|.cl 526 [ak,(.aE bc gx)],.aB (.aA .IsNot (.x 10)<|.k .a5) [.c0 d3 (.aE aV gx)<|.x 10,.aG 8<|.k<|.aP true] [.aB (.aA .In (.aE aV gx) d3) [.bF<|.aZ d3 .pop [(.aE aV gx)],.aG 8<|.k<|.aP true] []]],
  .aB eT [.aG 5<|.cl 392 [b4,aK]] [],
  .bF (.aZ ak (.bE dK) [ai,bB])]⟩
def EF:aR:=⟨9,7,[],[
  .f3 [.aG 7<|.aZ ak (.bE kH) [aK]] (some 8) [.bF<|.cl 181 [eT,(.aM .Add (.aM .Add (.ac<|cd 15 0x28626f6479206f6620226469637420) ai)<|.ac [34,41])],.cn eT kE<|.ah 0,.bF<|.cl 624 [ak,aV,bc,bB,b4],.ca eT],
  .bF (.cl 624 [ak,aV,bc,bB,b4]),
  .ay d3]⟩
def EG:aR:=⟨7,2,[],[
  .aB (.dF (.aA .Lt (.ln [ai])<|.ah 6)<|.aA .Eq (.aM .Mod (.ln [ai])<|.ah 2)<|.ah 1) [.ca<|.cl 146 [(.ac<|cd 60 0x646963742075706461746520646963745661724e616d65206b6579207661724e616d65203f6b6579207661724e616d65202e2e2e3f20736372697074)]] [],
  .aG 2 (.cl 357 [(.aZ ak (.bE fl) [(.aE ai<|.ah 2)])]),
  .aG 3 (.ag []),
  .aG 4 (.ag []),
  .b6 [5] false (.bW (.k<|.cg "range") [(.ah 3),(.aM .Sub (.ln [ai])<|.ah 1),(.ah 2)]) [.aG 6<|.aE ai bB,.bF<|.aZ aV .dN [b4],.bF<|.aZ bc .dN [(.aE ai<|.aM .Add bB<|.ah 1)],.aB (.aA .In b4 aK) [.bF<|.aZ ak (.bE dK) [(.aE ai<|.aM .Add bB<|.ah 1),(.aE aK b4)]] [.aB (.aZ ak (.bE [104,97,115]) [(.aE ai<|.aM .Add bB<|.ah 1)]) [.bF<|.aZ ak (.bE kF) [(.aE ai<|.aM .Add bB<|.ah 1)]] []]],
  .ay (.cl 631 [ak,(.ac ib),(.aE ai<|.cm<|.ah 1),(.aE ai<|.ah 2),(.ag []),aV,bc])]⟩
def EH:aR:=⟨7,2,[],[
  .aB (.aA .Lt (.ln [ai])<|.ah 4) [.ca<|.cl 146 [(.ac<|cd 38 0x64696374207769746820646963745661724e616d65203f6b6579202e2e2e3f20736372697074)]] [],
  .aG 2 (.aJ ai (.ah 3)<|.cm<|.ah 1),
  .aG 3 (.aZ ak (.bE fl) [(.aE ai<|.ah 2)]),
  .aG 4 (.cl 357 [aV]),
  .aB aK [.aG 4<|.cl 357 [(.cl 378 [bc,aK])]] [],
  .aG 5 (.ag []),
  .b6 [6] false bc [.bF<|.aZ bB .dN [b4],.bF<|.aZ ak (.bE dK) [b4,(.aE bc b4)]],
  .ay (.cl 631 [ak,(.ac g3),(.aE ai<|.cm<|.ah 1),(.aE ai<|.ah 2),aK,bB,bB])]⟩
def EI:aR:=⟨0,0,[],[
  .ay (.av [[99,114,101,97,116,101],jz,hJ,ky,nM,iR,lV,e5,fZ,[115,105,122,101],kz] [(.bm 456),(.bm 498),(.bm 484),(.bm 491),(.bm 491),(.bm 512),(.bm 477),(.bm 470),(.bm 463),(.bm 505),(.bm 519)])]⟩
def EJ:aR:=⟨0,0,[],[
  .ay (.av [ic,gh,ia,jF,kA] [(.bm 540),(.bm 554),(.bm 547),(.bm 561),(.bm 568)])]⟩
def EK:aR:=⟨0,0,[],[
  .ay (.av [gg,kI,jG,ib,g3] [(.bm 617),(.bm 589),(.bm 596),(.bm 638),(.bm 645)])]⟩
def EL:aR:=⟨3,0,[],[
  .aG 0 (.cl 652 []),
  .b6 [1] false (.an [(.cl 659 []),(.cl 666 [])]) [.b6 [2] false ai [.c0 ak aK<|.aE ai aK]],
  .ay ak]⟩
def EM:aR:=⟨0,0,[],[
  .ay (.av [hH] [(.an [(.bm 167),(.an [(.ac hH),(.cl 673 [])])])])]⟩
def rB:aR:=⟨1,1,[],[
  .cn ak kG (.ac gG),
  .cn ak fH (.ac []),
  .cn ak [116,114,97,99,101,115] (.ag []),
  .cn ak [105,115,95,98,117,115,121] (.k<|.aP false),
  .cn ak pZ (.k<|.aP false),
  .cn ak nQ (.ah 0)]⟩
def EN:aR:=⟨3,3,[(.ae 40),.a5],[
  .cn ak kB (.av [] []),
  .cn ak nR (.av [] []),
  .cn ak nS ai,
  .cn ak lX aK,
  .cn ak kC (.ah 0),
  .cn ak lW (.ah 0),
  .cn ak nT (.ah 0),
  .cn ak [102,114,97,109,101] (.k .a5),
  .cn ak p0 (.k .a5)]⟩
def EO:aR:=⟨2,2,[],[
  .aB (.aA .NotIn ai<|.ce ak kB) [.ca<|.cl 51 [(.aM .Add (.ac<|cd 24 0x74686520686f7374206c61636b732074686520746f6f6c20) ai)]] [],
  .ay (.aE (.ce ak kB) ai)]⟩
def EP:aR:=⟨1,1,[],[
  .gm ak lW .Add (.ah 1),
  .aB (.cR (.aA .IsNot (.ce ak lX)<|.k .a5)<|.aA .Gt (.ce ak lW)<|.ce ak lX) [.ca<|.cl 63 [(.ac<|cd 29 0x74686520736372697074207370656e7420616c6c20697473206675656c)]] []]⟩
def EQ:aR:=⟨3,2,[],[
  .aB (.aA .GtE (.ce ak kC)<|.ce ak nS) [.ca<|.cl 139 [(.ac<|cd 44 0x746f6f206d616e79206e6573746564206576616c756174696f6e732028696e66696e697465206c6f6f703f29),(.an [(.ac cD),(.ac [76,73,77,73,84]),(.ac [83,84,65,67,75])])]] [],
  .aG 2 (.aZ ak (.bE [116,111,111,108]) [(.ac kH)]),
  .gm ak kC .Add (.ah 1),
  .im [.ay<|.bW aK [ak,ai]] [.gm ak kC .Sub<|.ah 1]]⟩
def ER:aR:=⟨3,2,[],[
  .aB (.eG ai) [.ay<|.ac []] [],
  .aG 2 (.aZ ak (.bE [98,101,103,105,110]) [ai]),
  .aB (.bW (.k<|.b5 "isinstance") [aK,(.bm 105)]) [.ay<|.aZ ak (.bE [102,105,110,105,115,104]) [aK]] [],
  .aB (.bW (.k<|.b5 "isinstance") [aK,(.bm 126)]) [.ca<|.cl 139 [(.ac<|cd 26 0x63616e6e6f74207969656c643a204320737461636b2062757379),(.an [(.ac cD),(.ac [67,79,82,79,85,84,73,78,69]),(.ac [67,65,78,84,95,89,73,69,76,68])])]] [],
  .ay aK]⟩
def ES:aR:=⟨3,2,[],[
  .aG 2 (.aM .Add (.aM .Add (.aM .Add (.aM .Add (.ac [99,97,110,39,116,32]) ak)<|.ac [32,34]) ai)<|.ac ty),
  .ay (.cl 139 [aK,(.an [(.ac cD),(.ac ie),(.ac [86,65,82,78,65,77,69]),ai])])]⟩
def ET:aR:=⟨2,2,[],[
  .aB (.aA .NotIn ai ak) [.c0 ak ai<|.cl 697 []] [],
  .ay (.aE ak ai)]⟩
def EU:aR:=⟨3,3,[],[
  .cn ak kG ai,
  .cn ak fH aK,
  .gm ak nQ .Add (.ah 1),
  .ay aK]⟩
def EV:aR:=⟨1,1,[],[
  .aB (.bW (.k<|.b5 "isinstance") [ak,(.k<|.cg "tuple")]) [.ay ak] [],
  .ay (.an [ak,(.k .a5)])]⟩
def EW:aR:=⟨4,4,[],[
  .aB (.aA .Is aV<|.k .a5) [.ay<|.bW aK [ak,ai]] [],
  .ay (.bW aK [ak,ai,aV])]⟩
def rC:aR:=⟨3,3,[(.ae 40),.a5],[
  .bF (.aZ (.bm 782) (.bE kx) [ak,ai,aK]),
  .cn ak jE (.av [] []),
  .cn ak jy (.av [] []),
  .cn ak lT (.av [] [])]⟩
def EX:aR:=⟨2,2,[],[
  .ay (.cR (.aA .In ai<|.ce ak jE)<|.aA .NotEq (.ce (.aE (.ce ak jE) ai) kG)<|.ac gG)]⟩
def EY:aR:=⟨2,2,[],[
  .ay (.cl 800 [(.ce ak jE),ai])]⟩
def EZ:aR:=⟨3,3,[],[
  .aB (.aA .Eq (.ce ai kG)<|.ac gG) [.ca<|.cl 793 [(.ac fl),aK]] [],
  .ay (.ce ai fH)]⟩
def E0:aR:=⟨4,4,[],[
  .ay (.cl 807 [ai,(.ac [115,99,97,108,97,114]),aV])]⟩
def E1:aR:=⟨2,2,[],[
  .ay (.aZ ak (.bE [114,101,97,100,95,118,97,114]) [(.aZ ak (.bE [112,108,97,99,101]) [ai]),ai])]⟩
def E2:aR:=⟨3,3,[],[
  .ay (.aZ ak (.bE [119,114,105,116,101,95,118,97,114]) [(.aZ ak (.bE [112,108,97,99,101]) [ai]),ai,aK])]⟩
def E3:aR:=⟨2,2,[],[
  .aB (.eG<|.aZ ak (.bE [104,97,115]) [ai]) [.ca<|.cl 793 [(.ac kA),ai]] [],
  .bF (.cl 807 [(.aE (.ce ak jE) ai),(.ac gG),(.ac [])])]⟩
def E4:aR:=⟨4,4,[.a5],[
  .bF (.aZ ak (.bE e5) [ai]),
  .c0 (.ce ak jy) ai (.an [aK,aV])]⟩
def E5:aR:=⟨2,2,[],[
  .bF (.aZ (.ce ak jy) .pop [ai,(.k .a5)]),
  .bF (.aZ (.ce ak lT) .pop [ai,(.k .a5)]),
  .aB (.aA .In ai<|.ce ak nR) [.gm ak nT .Add<|.ah 1] []]⟩
def E6:aR:=⟨5,2,[],[
  .b6 [2] false ai [.ev [3,4]<|.cl 821 [(.aE ai aK)],.bF<|.aZ ak (.bE [112,117,116]) [aK,aV,bc],.c0 (.ce ak lT) aK<|.k<|.aP true]]⟩
def E7:aR:=⟨4,2,[],[
  .aB (.aA .NotIn (.aE ai<|.ah 0)<|.ce ak jy) [.ca<|.cl 139 [(.aM .Add (.aM .Add (.ac<|cd 22 0x696e76616c696420636f6d6d616e64206e616d652022)<|.aE ai<|.ah 0)<|.ac [34]),(.an [(.ac cD),(.ac ie),(.ac [67,79,77,77,65,78,68]),(.aE ai<|.ah 0)])]] [],
  .bF (.aZ ak (.bE [115,112,101,110,100]) []),
  .ev [2,3] (.aE (.ce ak jy)<|.aE ai<|.ah 0),
  .ay (.cl 828 [ak,ai,aK,aV])]⟩
def E8:aR:=⟨5,2,[],[
  .aG 2 (.ac []),
  .aG 3 (.aM .FloorDiv ak<|.aM .Add ai<|.ah 1),
  .b6 [4] false (.bW (.k<|.cg "range") [(.aM .Mod ak<|.aM .Add ai<|.ah 1)]) [.aG 2<|.aM .Add aK<|.aE (.ac [97,98,49,35,123,125,34,92,32,10,93,59])<|.aM .Mod aV<|.ah 12,.aG 3<|.aM .FloorDiv aV<|.ah 12],
  .ay aK]⟩
def E9:aR:=⟨4,1,[],[
  .aB (.aA .Eq (.aM .Mod ak<|.ah 3)<|.ah 2) [.ay<|.cl 954 [(.aM .FloorDiv ak<|.ah 3),(.ah 10)]] [],
  .aG 1 (.ag []),
  .aG 2 (.aM .FloorDiv ak<|.ah 36),
  .b6 [3] false (.bW (.k<|.cg "range") [(.aM .Mod (.aM .FloorDiv ak<|.ah 3)<|.ah 6)]) [.bF<|.aZ ai .dN [(.aE (.ag [(.ac [97]),(.ac [98]),(.ac [123,125]),(.ac [123,97,32,49,125]),(.ac [92,35]),(.ac [34,98,32,97,34]),(.ac [49]),(.ac [123,98,32,123,97,32,49,125,125]),(.ac [97,92,32,98]),(.ac [45,55])])<|.aM .Mod aK<|.ah 10)],.aG 2<|.aM .FloorDiv aK<|.ah 10],
  .ay (.aZ (.aB (.aA .Eq (.aM .Mod ak<|.ah 3)<|.ah 0) (.aE (.ag [(.ac [32]),(.ac [32,32])])<|.aM .Mod (.aM .FloorDiv ak<|.ah 18)<|.ah 2)<|.ac [32,10]) .f2 [ai])]⟩
def Fa:aR:=⟨1,1,[],[
  .aB (.aA .Eq (.aM .Mod ak<|.ah 7)<|.ah 6) [.ay<|.cl 954 [(.aM .FloorDiv ak<|.ah 7),(.ah 2)]] [],
  .ay (.aE (.ag [(.ac [97]),(.ac [98]),(.ac []),(.ac [49]),(.ac [35]),(.ac [97,32,98])])<|.aM .Mod ak<|.ah 7)]⟩
def Fb:aR:=⟨2,1,[],[
  .aG 1 (.aM .Mod ak<|.aM .Mult (.ah 2)<|.aM .Pow (.ah 10)<|.ah 31),
  .ay (.aB (.aA .Eq (.aM .Mod ai<|.ah 2)<|.ah 0) (.aM .FloorDiv ai<|.ah 2)<|.aM .Sub (.cm<|.ah 1)<|.aM .FloorDiv ai<|.ah 2)]⟩
def Fc:aR:=⟨3,3,[],[
  .ay (.aB (.aA .Lt ai<|.ln [ak]) (.aE ak ai) aK)]⟩
def Fd:aR:=⟨2,2,[],[
  .aB (.aA .Eq ai<|.ac [99,111,112,121]) [.ay<|.aZ ak (.bE [99,97,108,108]) [(.ag [(.ac hH),(.ac jF),(.ac nO),(.aZ ak (.bE fl) [(.ac [116,104,101,32,107,101,121])]),(.aZ ak (.bE fl) [(.ac p2)])])]] [],
  .aB (.aA .Eq ai<|.ac [103,105,118,101]) [.ay<|.aZ ak (.bE fl) [(.ac p2)]] [],
  .aB (.aA .Eq ai<|.ac g4) [.ay<|.ac g4] [],
  .aB (.aA .Eq ai<|.ac dK) [.bF<|.aZ ak (.bE dK) [(.aZ ak (.bE fl) [(.ac kv)]),(.aZ ak (.bE fl) [(.ac p3)])]] [],
  .aB (.cR (.aA .Eq ai<|.ac kF)<|.aZ ak (.bE [104,97,115]) [(.aZ ak (.bE fl) [(.ac kv)])]) [.bF<|.aZ ak (.bE kF) [(.aZ ak (.bE fl) [(.ac kv)])]] [],
  .ay (.ac [])]⟩
def Fe:aR:=⟨3,2,[],[
  .f3 [.ay<|.an [(.ah 0),(.aZ ak (.bE [99,97,108,108]) [(.aM .Add (.ag [(.ac hH)]) ai)])]] (some 2) [.ay<|.an [(.ce aK jC),(.ce aK fH),(.ce aK lS)]]]⟩
def Ff:aR:=⟨6,3,[],[
  .bF (.aZ ak (.bE dK) [(.ac nP),ai]),
  .aG 3 (.an [(.ah 0),(.ac [])]),
  .b6 [4,5] true aK [.aB (.aA .Eq (.aE aV<|.ah 0)<|.ah 0) [.aG 3<|.cl 996 [ak,(.aM .Add (.ag [bc,(.ac nP)]) bB)]] []],
  .ay (.an [aV,(.aZ ak (.bE fl) [(.ac nP)])])]⟩
def Fg:aR:=⟨2,2,[],[
  .ay (.an [ai,(.aB (.aA .Eq (.aE ai<|.ah 0)<|.ah 0) (.aE ai<|.ah 1) ak)])]⟩
def Fh:aR:=⟨5,5,[],[
  .aB (.aA .Eq (.aE aV<|.ah 0)<|.ah 0) [.aG 3<|.cl 996 [ak,(.aM .Add (.ag [(.aE bc<|.ah 0),(.aE aV<|.ah 1)])<|.aJ bc (.ah 1)<|.k .a5)]] [],
  .aB (.aA .Eq (.aE aV<|.ah 0)<|.ah 0) [.aG 3<|.cl 996 [ak,(.ag [(.ac fZ),ai,aK,(.aE aV<|.ah 1)])]] [],
  .ay aV]⟩
def Fi:aR:=⟨7,5,[],[
  .aG 5 (.cl 996 [ak,(.ag [(.ac ky),ai,aK,(.ac [])])]),
  .aG 6 (.cl 1017 [ak,ai,aK,bB,(.ag [(.ac fZ),aV,bc])]),
  .aB (.aA .NotEq (.cl 1003 [ak,ai,(.ag [(.an [(.ac jF),(.ag [aK,aV,bc])])])])<|.cl 1010 [ai,b4]) [.ay<|.k<|.aP false] [],
  .aG 5 (.cl 996 [ak,(.ag [(.ac hJ),ai,aK])]),
  .aG 6 (.cl 1017 [ak,ai,aK,bB,(.ag [(.ac e5),aV])]),
  .aB (.aA .NotEq (.cl 1003 [ak,ai,(.ag [(.an [(.ac kA),(.ag [aK,aV])])])])<|.cl 1010 [ai,b4]) [.ay<|.k<|.aP false] [],
  .aG 6 (.cl 996 [ak,(.ag [(.ac e5),ai,aK])]),
  .aB (.aA .NotEq (.cl 1003 [ak,ai,(.ag [(.an [(.ac kA),(.ag [aK])])])])<|.cl 1010 [ai,b4]) [.ay<|.k<|.aP false] [],
  .aG 6 (.cl 996 [ak,(.ag [(.ac fZ),ai,aK,bc])]),
  .ay (.aA .Eq (.cl 1003 [ak,ai,(.ag [(.an [(.ac jF),(.ag [aK,bc])])])])<|.cl 1010 [ai,b4])]⟩
def Fj:aR:=⟨9,7,[],[
  .b6 [7] false (.ag [(.ac ic),(.ac ia)]) [.aG 8<|.cl 1003 [ak,ai,(.ag [(.an [d3,(.ag [aK,bc,bB])])])],.aB (.aA .NotEq eT<|.cl 1003 [ak,ai,(.ag [(.an [d3,(.ag [aK,bc])]),(.an [d3,(.ag [aK,bB])])])]) [.ay<|.k<|.aP false] []],
  .aG 8 (.cl 1003 [ak,ai,(.ag [(.an [(.ac gh),(.ag [aV,(.bW (.k<|.cg "str") [(.aM .Add (.aE b4<|.ah 0)<|.aE b4<|.ah 1)])])])])]),
  .aB (.aA .NotEq eT<|.cl 1003 [ak,ai,(.ag [(.an [(.ac gh),(.ag [aV,(.bW (.k<|.cg "str") [(.aE b4<|.ah 0)])])]),(.an [(.ac gh),(.ag [aV,(.bW (.k<|.cg "str") [(.aE b4<|.ah 1)])])])])]) [.ay<|.k<|.aP false] [],
  .ay (.aA .Eq (.cl 1003 [ak,ai,(.ag [(.an [(.ac gh),(.ag [aV])])])])<|.cl 1003 [ak,ai,(.ag [(.an [(.ac gh),(.ag [aV,(.ac [49])])])])])]⟩
def Fk:aR:=⟨6,4,[],[
  .bF (.aZ ak (.bE dK) [(.ac nO),aK]),
  .aG 4 (.cl 996 [ak,(.ag [(.ac kI),(.ac lR),ai,(.ac [99,111,112,121])])]),
  .aG 5 (.cl 996 [ak,(.ag [(.ac lV),aK,ai])]),
  .aB (.aA .NotEq (.aE aV<|.ah 0)<|.ah 0) [.aB (.aA .NotEq bc aV) [.ay<|.k<|.aP false] []] [.aB (.aA .Eq (.aE bB<|.ah 0)<|.ah 0) [.aB (.dF (.aA .NotEq bc<|.an [(.ah 0),(.ac [])])<|.aA .NotEq (.aZ ak (.bE fl) [(.ac nO)])<|.aE bB<|.ah 1) [.ay<|.k<|.aP false] []] [.aB (.aA .NotEq bc<|.aB (.aA .NotEq (.aE aV<|.ah 1)<|.ac []) bB<|.an [(.ah 0),(.ac [])]) [.ay<|.k<|.aP false] []]],
  .aB (.aA .NotEq (.cl 996 [ak,(.ag [(.ac jG),(.ac lR),ai,(.ac [103,105,118,101])])]) aV) [.ay<|.k<|.aP false] [],
  .ay (.aA .Eq (.cl 996 [ak,(.ag [(.ac gg),ai,(.ac lU),(.ac lR),(.ac g4)])]) aV)]⟩
def Fl:aR:=⟨7,3,[],[
  .aG 3 (.cl 314 [(.aE (.cl 996 [ak,(.ag [(.ac iR),ai])])<|.ah 1)]),
  .aG 4 (.ag []),
  .b6 [5] false aK [.aG 4<|.aM .Add bc<|.cl 314 [(.aE (.cl 996 [ak,(.ag [(.ac iR),ai,bB])])<|.ah 1)]],
  .f4 [6] false [4] aV ak (some<|.aA .NotIn ak ai),
  .aB (.aA .NotEq (.cl 996 [ak,(.aM .Add (.ag [(.ac gg),ai,(.ac [107,101,121])]) aK)])<|.cl 996 [ak,(.aM .Add (.ag [(.ac e5),ai]) b4)]) [.ay<|.k<|.aP false] [],
  .aG 4 (.ag []),
  .b6 [5] false aK [.aG 4<|.aM .Add bc<|.cl 314 [(.aE (.cl 996 [ak,(.ag [(.ac kz),ai,bB])])<|.ah 1)]],
  .f4 [6] false [4,0,1] aV ak (some<|.aA .NotIn (.aE (.cl 996 [aK,(.ag [(.ac hJ),aV,ak])])<|.ah 1) ai),
  .ay (.aA .Eq (.cl 996 [ak,(.aM .Add (.ag [(.ac gg),ai,(.ac fH)]) aK)])<|.cl 996 [ak,(.aM .Add (.ag [(.ac e5),ai]) b4)])]⟩
def Fm:aR:=⟨10,6,[],[
  .bF (.aZ ak (.bE dK) [(.ac kv),aK]),
  .bF (.aZ ak (.bE dK) [(.ac p3),bc]),
  .aG 6 (.aA .Eq (.cl 996 [ak,(.ag [(.ac jz),ai,aK])])<|.an [(.ah 0),(.ac [49])]),
  .aG 7 (.aB (.aA .NotEq (.aE bB<|.ah 1)<|.ac []) (.aE bB<|.ah 1) ai),
  .aG 8 (.aB b4 (.aE (.cl 996 [ak,(.ag [(.ac fZ),ai,aK,bc])])<|.ah 1) d3),
  .aB (.aA .NotEq (.cl 1003 [ak,ai,(.ag [(.an [(.ac g3),(.ag [(.ac dK)])])])])<|.an [(.an [(.ah 0),(.ac [])]),eT]) [.ay<|.k<|.aP false] [],
  .aG 8 (.aB b4 (.aE (.cl 996 [ak,(.ag [(.ac e5),ai,aK])])<|.ah 1) d3),
  .aB (.aA .NotEq (.cl 1003 [ak,ai,(.ag [(.an [(.ac g3),(.ag [(.ac kF)])])])])<|.an [(.an [(.ah 0),(.ac [])]),eT]) [.ay<|.k<|.aP false] [],
  .bF (.aZ ak (.bE dK) [(.ac kv),(.ac p1)]),
  .aG 9 (.ag [aK,(.ac p1),aV,(.ac [116,104,101,32,111,116,104,101,114])]),
  .aG 8 (.aB (.aA .NotEq aK aV) (.aE (.cl 996 [ak,(.ag [(.ac fZ),ai,aK,bc])])<|.ah 1)<|.aE bB<|.ah 1),
  .aB (.aA .NotEq (.cl 1003 [ak,ai,(.ag [(.an [(.ac ib),(.aM .Add gx<|.ag [(.ac dK)])])])])<|.an [(.an [(.ah 0),(.ac [])]),eT]) [.ay<|.k<|.aP false] [],
  .aG 6 (.dF b4<|.aA .Eq (.cl 996 [ak,(.ag [(.ac jz),ai,aV])])<|.an [(.ah 0),(.ac [49])]),
  .ay (.aA .Eq (.cl 1003 [ak,ai,(.ag [(.an [(.ac ib),(.aM .Add gx<|.ag [(.ac gG)])])])])<|.an [(.an [(.ah 0),(.ac [])]),(.aB b4 (.aE bB<|.ah 1) ai)])]⟩
def mU:aR:=⟨12,1,[],[
  .aG 1 (.cl 961 [(.cl 982 [ak,(.ah 0),(.aM .Mult (.ah 3)<|.aM .Add (.ah 4)<|.aM .Mult (.ah 6)<|.aM .Add (.ah 1)<|.aM .Mult (.ah 2)<|.ah 6130)])]),
  .aG 2 (.cl 961 [(.cl 982 [ak,(.ah 1),(.aM .Mult (.ah 3)<|.aM .Add (.ah 2)<|.aM .Mult (.ah 12)<|.ah 58)])]),
  .f4 [3,4,5,6] true [0] (.bW (.k<|.cg "range") [(.ah 4)]) (.cl 968 [(.cl 982 [ai,(.aM .Add ak<|.ah 2),(.aE (.ag [(.ah 0),(.ah 1),(.ah 5),(.ah 2)]) ak)])]) none,
  .f4 [7] false [0] (.bW (.k<|.cg "range") [(.ah 2)]) (.cl 975 [(.cl 982 [ai,(.aM .Add ak<|.ah 6),(.aM .Add (.ah 30)<|.aM .Mult (.ah 7) ak)])]) none,
  .aG 8 (.ag [(.ac [42,49]),(.ac [97,42]),(.ac [63]),(.ac jB),(.ac [98]),(.ac [92,35]),(.ac [])]),
  .f4 [9] false [8,0] (.bW (.k<|.cg "range") [(.ah 2)]) (.aE ai<|.aM .Mod (.cl 982 [aK,(.aM .Add ak<|.ah 8),(.aM .Add (.ah 3) ak)])<|.ah 7) none,
  .aG 10 (.cl 945 []),
  .c0 (.ce (.x 10) kB) (.ac kH) (.bm 989),
  .bF (.aZ (.x 10) (.bE [97,100,100]) [(.cl 680 [])]),
  .aB (.dF (.eG<|.cl 1024 [(.x 10),ai,aV,bc,bB])<|.eG<|.cl 1031 [(.x 10),ai,aV,bc,bB,b4,d3]) [.ay<|.k<|.aP false] [],
  .aG 11 (.cl 996 [(.x 10),(.ag [(.ac hJ),ai])]),
  .aB (.eG<|.cl 1038 [(.x 10),ai,aK,(.x 11)]) [.ay<|.k<|.aP false] [],
  .aB (.aA .NotEq (.aE (.x 11)<|.ah 0)<|.ah 0) [.ay<|.aA .Eq (.cl 1003 [(.x 10),ai,(.ag [(.an [(.ac g3),(.ag [(.ac gG)])])])])<|.an [(.x 11),ai]] [],
  .ay (.cR (.cl 1043 [(.x 10),ai,gx])<|.cl 1050 [(.x 10),ai,aV,bc,bB,(.x 11)])]⟩
def hp:List (Nat×aR):=[(81,rA),(139,DC),(146,DD),(153,DE),(160,DF),(167,DG),(181,DH),(202,DI),(209,DJ),(216,DK),(223,DL),(230,DM),(237,DN),(244,DO),(251,DP),(258,DQ),(265,DR),(272,DS),(279,DT),(286,DU),(293,DV),(300,DW),(307,DX),(314,DY),(321,DZ),(328,D0),(336,D1),(343,D2),(350,D3),(357,D4),(364,D5),(371,D6),(378,D7),(385,D8),(392,D9),(399,Ea),(406,Eb),(413,Ec),(420,Ed),(427,Ee),(442,Ef),(449,Eg),(463,Eh),(470,Ei),(477,Ej),(484,Ek),(491,El),(498,Em),(512,En),(519,Eo),(526,Ep),(533,Er),(540,Es),(547,Et),(554,Eu),(561,Ev),(568,Ew),(575,Ex),(582,Ey),(589,Ez),(596,EA),(603,EB),(610,EC),(617,ED),(624,EE),(631,EF),(638,EG),(645,EH),(652,EI),(659,EJ),(666,EK),(673,EL),(680,EM),(694,rB),(716,EN),(723,EO),(730,EP),(744,EQ),(758,ER),(793,ES),(800,ET),(807,EU),(821,EV),(828,EW),(843,rC),(850,EX),(857,EY),(864,EZ),(871,E0),(878,E1),(885,E2),(892,E3),(914,E4),(921,E5),(928,E6),(942,E7),(954,E8),(961,E9),(968,Fa),(975,Fb),(982,Fc),(989,Fd),(996,Fe),(1003,Ff),(1010,Fg),(1017,Fh),(1024,Fi),(1031,Fj),(1038,Fk),(1043,Fl),(1050,Fm),(1055,mU)]
noncomputable def Fn(a:Nat):Option aR:=hp.lookup a
end
section
open PySem PySem.Calls PyProof.Rows PySem.W
open Hq (K0)
noncomputable def rD:List (Str×V):=[(Str.ofString "len",.b5 "len"),(Str.ofString "ord",.b5 "ord"),(Str.ofString "chr",.b5 "chr"),(Str.ofString "str",.cg "str"),(Str.ofString "range",.cg "range"),(Str.ofString "isinstance",.b5 "isinstance"),(Str.ofString "sorted",.b5 "sorted"),(Str.ofString "Exception",.cg "Exception"),(Str.ofString "tuple",.cg "tuple")]
def gS(K:Frag)(x:Str):Option V:=match nsIn K mainGlobals x with
 |some (some u)=>some<|toV u
 |some none=>rD.lookup x
 |none=>none
theorem Fo(p):hU (K0 p) (gS<|K0 p) false 81=some rA:=by kernel_rfl
theorem Fp(p):hU (K0 p) (gS<|K0 p) false 694=some rB:=by kernel_rfl
theorem Fq(p):hU (K0 p) (gS<|K0 p) false 843=some rC:=by kernel_rfl
theorem Fr(p):hU (K0 p) (gS<|K0 p) false 1055=some mU:=by kernel_rfl
def Tab(p:Params)(l:List (Nat×aR)):Prop:=(l.map fun q=>hU (K0 p) (gS<|K0 p) (decide (q.1=442)) q.1)=l.map fun q=>some q.2
theorem Tab.app{p l}(n)(h:Tab p (l.take n))(g:Tab p (l.drop n)):Tab p l:=by unfold Tab at*;rw[<-take_append_drop n l,map_append,map_append,h,g]
theorem Fs(p):Tab p (hp.take 14):=by show _=_;kernel_rfl
theorem k6(p):Tab p ((hp.drop 14).take 14):=by show _=_;kernel_rfl
theorem vB(p):Tab p ((hp.drop 28).take 14):=by show _=_;kernel_rfl
theorem Ft(p):Tab p ((hp.drop 42).take 14):=by show _=_;kernel_rfl
theorem Fu(p):Tab p ((hp.drop 56).take 14):=by show _=_;kernel_rfl
theorem Fv(p):Tab p ((hp.drop 70).take 14):=by show _=_;kernel_rfl
theorem Fw(p):Tab p ((hp.drop 84).take 14):=by show _=_;kernel_rfl
theorem Fx(p):Tab p (hp.drop 98):=by show _=_;kernel_rfl
theorem Fy(p):∀q∈hp,∃b,hU (K0 p) (gS<|K0 p) b q.1=some q.2:=fun q Z=>⟨_,map_inj_left.mp (show Tab p hp from .app 14 (Fs p) (.app 14 (k6 p)<|.app 14 (vB p)<|.app 14 (Ft p)<|.app 14 (Fu p)<|.app 14 (Fv p)<|.app 14 (Fw p)<|Fx p)) q Z⟩
theorem Fz:typeOf (.type "tuple")=pure (.type "type"):=by kernel_rfl
theorem isi_sub_tuple:isSubtype (.type "tuple") (.type "tuple")=pure true:=by kernel_rfl
section
variable{B:bY}{L:Look}{n:Nat}{U:Option Nat}{K:a3 V}{E:a3 Nat}{h:ar}
theorem FA{B f}(Z:∀a,f≠.ref a):j5 B f:=⟨.machine,fun O O O O O q=>by cases f<;>first|exact wpAny_pure q|exact absurd rfl<|Z _⟩
theorem rE{f X ad}(S:∀a,f≠.ref a)(R:∀g,toV g=X->g=f)(Y:∀(F:bM)(A:Around)(J:St)(us:List Value),b1 F A U 8->F.ups.length+1=n->bo us=ad->J.h=h->cX B F A (call f us) (fun v Z=>Z.l=J.l/\K v Z.h) (fun a Z=>Z.l=J.l/\E a Z.h) J):(c8 B L n).call U X ad K E h:=by intro F A J g us O N Q P W V T;have:=R g V;subst this;exact⟨FA S,Y F A J us P Q T W⟩
theorem iw{f V ad r}(S:∀a,f≠.ref a)(P:∀g,toV g=V->g=f)(X:∀(F:bM)(A:Around)(J:St)(us:List Value)(s:Shared)(Q:Value->Shared->Prop)(W:Value->Shared->Prop),bo us=ad->J.h=h->aS B F J s->(∀v m,toV v=r->Q v {s with toks:=m})->wpAny (model B.prog B.w) A (call f us) Q W s)(k:K r h):(c8 B L n).call U V ad K E h:=
 rE S P fun F A J us N M T Y=>G.val (fun s R Q W O=>X F A J us s Q W T Y R O) ⟨rfl,by exact Z Y k⟩
theorem v5{f W ad ao}(S:∀a,f≠.ref a)(P:∀g,toV g=W->g=f)(Z:∀(F:bM)(A:Around)(J:St)(us:List Value)(s:Shared)(Q:Value->Shared->Prop)(X:Value->Shared->Prop),bo us=ad->aS B F J s->(∀o m,ft B (s.heap.push o) ao o->Q (.ref s.heap.objs.size) {s with heap:=s.heap.push o,toks:=m})->wpAny (model B.prog B.w) A (call f us) Q X s)(k:∀a,h a=none->K (.Y a) (h.set a ao)):(c8 B L n).call U W ad K E h:=
 rE S P fun F A J us M I V T=>G.new (ao:=ao) (fun s R Q X O=>Z F A J us s Q X V R O) (fun a N=>⟨rfl,by subst T;exact k a N⟩)
theorem FB{l x y z}(h:bo l=[x,y,z]):cP fun a b c=>cQ (l=[a,b,c]) (toV a=x) (toV b=y) (toV c=z):=by
 match l with
 |[a,b,c]=>have e:=List.cons.inj h;have Z:=List.cons.inj e.2;exact⟨a,b,c,rfl,e.1,Z.1,(List.cons.inj Z.2).1⟩
 |[]=>trivial
 |[_]=>have e:=List.cons.inj h;cases e.2
 |[_,_]=>have e:=List.cons.inj (List.cons.inj h).2;cases e.2
 |_::_::_::_::_=>have e:=List.cons.inj (List.cons.inj (List.cons.inj h).2).2;cases e.2
theorem ix{id}:∀g,toV g=.b5 id->g=.builtin id:=fun O=>Aq
theorem gt{id}:∀g,toV g=.cg id->g=.type id:=fun O=>oB
theorem iy{id}:∀a,(Value.builtin id)≠.ref a:=fun O=>by exact aU
theorem rF{id}:∀a,(Value.type id)≠.ref a:=fun O=>by exact aU
theorem w_len_str{x}(V:x.length<=16777216)(k:K (.ae x.length) h):(c8 B L n).call U (.b5 "len") [.S x] K E h:=
 iw iy ix (fun F A J us s Q T Z W R Y=>by obtain⟨u,rfl,X⟩:=fR Z;obtain⟨t,rfl⟩:=cN X;exact PyProof.Rows.len_str (by rw[gP];exact tU<|by assumption)<|Y _ _<|by rfl) k
theorem w_len_list{a xs}(S:h a=some (.ag xs))(P:xs.length<=16777216)(k:K (.ae xs.length) h):(c8 B L n).call U (.b5 "len") [.Y a] K E h:=
 iw iy ix (fun F A J us s Q N V T R O=>by refine(fR V).elim fun u W=>?_;obtain rfl:=W.1;have:=b7 W.2;subst this;subst T;refine(R.list S).elim fun items ep X=>?_;exact Calls.call_len_list (fc X.1) (by exact Z (size_of X.2)<|(aF kJ) P)<|O _ _<|by exact Z (size_of X.2) rfl) k
theorem FC(x:gw B L){a xs}(S:L.ax a=some xs)(P:xs.length<=16777216)(k:K (.ae xs.length) h):(c8 B L n).call U (.b5 "len") [.Y a] K E h:=
 iw iy ix (fun F A J us s Q G T H R N=>by
  refine(fR T).elim fun u V=>?_;obtain rfl:=V.1;have:=b7 V.2;subst this;refine((x.ax 0).ax _ _ S).elim fun items X=>?_;refine R.elim fun O m D M O=>?_;have I:s.heap.IsList a items:=by refine X.1.elim fun o W=>?_;exact⟨o,M.keep _ _ W.1,W.2⟩
  exact Calls.call_len_list I (by exact Z (size_of X.2)<|(aF kJ) P)<|N _ _<|by exact Z (size_of X.2) rfl) k
theorem FD{a xs e}(bf:dl B)(V:h a=some (.av xs e))(P:xs.length<=16777216)(k:K (.ae xs.length) h):(c8 B L n).call U (.b5 "len") [.Y a] K E h:=
 iw iy ix (fun F A J us s Q M T S R O=>by refine(fR T).elim fun u W=>?_;obtain rfl:=W.1;have:=b7 W.2;subst this;subst S;refine(R.av V).elim fun N X=>?_;exact call_len_dict (R.low bf V) X.1 (by exact Z (is X.2)<|(aF kJ) P)<|O _ _<|by exact Z (is X.2) rfl) k
theorem FE{c:Nat}(k:K (.ae c) h):(c8 B L n).call U (.b5 "ord") [.S [c]] K E h:=
 iw iy ix (fun F A J us s Q V Z W R Y=>by obtain⟨u,rfl,X⟩:=fR Z;obtain⟨t,rfl⟩:=cN X;exact PySem.P.ord_of_char<|Y _ _ rfl) k
theorem FF{i}(Y:0<=i)(X:i<=0x10FFFF)(k:K (.S [i.toNat]) h):(c8 B L n).call U (.b5 "chr") [.ae i] K E h:=
 iw iy ix (fun F A J us s Q O Z T R W=>by obtain⟨u,rfl,V⟩:=fR Z;obtain⟨t,rfl⟩:=dP V;exact PySem.P.chr_of_int (by simp;exact⟨Y,X⟩)<|W _ _ rfl) k
theorem FG{i}(Y:i.natAbs.log2<1920)(k:K (.S<|(toString i:Str).cps.toList) h):(c8 B L n).call U (.cg "str") [.ae i] K E h:=
 iw rF gt (fun F A J us s Q T Z V R X=>by obtain⟨u,rfl,W⟩:=fR Z;obtain⟨t,rfl⟩:=dP W;exact PySem.P.str_of_int Y<|X _ _ rfl) k
theorem FH{i}(X:-(2^60)<i)(W:i<2^60)(k:∀a,h a=none->K (.Y a) (h.set a<|.range 0 i)):(c8 B L n).call U (.cg "range") [.ae i] K E h:=
 v5 rF gt (fun F A J us s Q S Z R V=>by obtain⟨u,rfl,T⟩:=fR Z;obtain⟨t,rfl⟩:=dP T;exact call_range_1<|V _ _ ⟨⟨_,_,_,rfl⟩,by exact bQ,by exact bQ,X,W⟩) k
theorem FI{i j c}(X:c≠0)(Z:c.natAbs<1073741824)(V:-(2^60)<i)(T:i<2^60)(S:-(2^60)<j)(P:j<2^60)(k:∀a,h a=none->K (.Y a) (h.set a<|.eF i j c)):(c8 B L n).call U (.cg "range") [.ae i,.ae j,.ae c] K E h:=
 v5 rF gt (fun F A J us s Q G W R O=>by obtain⟨u,v,w,rfl,N,M,I⟩:=FB W;obtain⟨t,rfl⟩:=dP N;obtain⟨D,rfl⟩:=dP M;obtain⟨H,rfl⟩:=dP I;exact call_range_3 X (O _ s.toks ⟨⟨_,_,_,rfl⟩,X,V,T,S,P,Int.lt_trans (aU)<|qw Z,Int.lt_trans (qx Z)<|aU⟩)<|.inl<|PyProof.noPylong_small Z) k
theorem FJ{a xs}(T:h a=some (.an xs))(k:K (.aP true) h):(c8 B L n).call U (.b5 "isinstance") [.Y a,.cg "tuple"] K E h:=
 iw iy ix (fun F A J us s Q P W V R S=>by refine(k2 W).elim fun u w Z=>?_;obtain rfl:=Z.1;have:=b7 Z.2;subst this;have:=oB Z.3;subst this;subst V;refine(R.tup T).elim fun items ep X=>?_;exact call_isinstance (isinstance_true (Tx:="tuple") Fz isi_sub_tuple) ⟨⟨_,X.1,rfl⟩,S _ s.toks rfl⟩) k
end
section
variable{B:bY}{L:Look}{K:Frag}
def rG(K:Frag)(C:Nat)(n:aa):Bool:=plainGet K C (aX n)&&hasDictIn K C&&(match findIn K (.ref C) (aX n)with|some a=>noGet K a|none=>false)
set_option tactic.hygienic true in
theorem FK(X:K.In B.h₀){C n}(h:rG K C n=true):oL B C n:=by unfold rG at h;simp only[Bool.and_eq_true]at h;obtain⟨⟨Y,W⟩,Z⟩:=h;split at Z;rename_i a V;intro A E s x S R v Q e keep I U T q;exact get_value (X.keeps keep) I (plainGet_of Y).1 (findObj_own W V Z U) T q;trivial
def rH(K:Frag)(C:Nat)(n:aa)(f:Nat):Bool:=plainGet K C (aX n)&&decide (findIn K (.ref C) (aX n)=some (some<|.ref f))&&isFn K (.ref f)
theorem FL(X:K.In B.h₀){C n f}(h:rH K C n f=true):q4 B C n f:=by unfold rH at h;simp only[Bool.and_eq_true,decide_eq_true_eq]at h;obtain⟨⟨Z,Y⟩,W⟩:=h;intro A E s x T V Q S keep I U q;exact method_fn (X.keeps keep) I (plainGet_of Z).1 (plainGet_of Z).2 Y (beq_iff_eq.mp W) (by show(lookIn (aX n) V).map _=_;exact a4 U) q
noncomputable def oY(K:Frag)(C:Nat):Bool:=decide (findIn K (.ref C) "__getattribute__"=some (some<|.builtin "BaseException.__getattribute__"))&&decide (findIn K (.ref C) "__getattr__"=some none)&&hasDictIn K C
  &&(match clsIn K C with|some be=>be.mro.contains (.type "BaseException")&&!be.mro.isEmpty|none=>false)
def rI(K:Frag)(C:Nat)(n:aa):Bool:=oY K C&&(match findIn K (.ref C) (aX n)with|some a=>noGet K a|none=>false)
theorem v6:PySem.Slot "Exception" "__getattribute__" "BaseException.__getattribute__":=
 .of (owner:="BaseException") (n:="__getattribute__") (by kernel_rfl) (by decide+kernel) (by decide+kernel) (by decide+kernel)
  (by first|exact .inl (by decide+kernel)|exact .inr<|by decide+kernel) (by kernel_rfl)
theorem FM(X:K.In B.h₀){C}(h:oY K C=true){M Y x V U}(keep:∀b o,B.h₀.get? b=some o->Y.get? b=some o)(I:PySem.W.InstAt Y x V C U):
  Looks M Y (isInstance (.ref x)<|.type "BaseException") true:=by
 unfold oY at h;simp(iota:=false)only[Bool.and_eq_true]at h;have h:=h.2;split at h
 .rename_i be T;simp(iota:=false)only[Bool.and_eq_true,Bool.not_eq_true']at h;intro A Q E s k q;refine wpAny_bind<|I.type _ _ _ _ k ?_;refine wpAny_bind<|wpAny_bind<|looks_clsIn X T _ _ _ _ (fun b o e=>k _ _<|keep _ _ e) ?_;refine wpAny_pure ?_;simp(iota:=false)only[h.2,Bool.false_eq_true,if_false];refine wpAny_bind<|wpAny_pure<|wpAny_pure ?_;exact Z h.1 q
 .trivial
theorem FN{prog w A E s x C Z Y name ea v Q}(I:PySem.W.InstAt s.heap x Z C Y)(X:Looks (model prog w) s.heap (Builtin.ObjectAttr.find (.ref x) (.ref C) name) (.value v))(q:Q (.done<|.ret v) s):wpAny (model prog w) A (Builtin.«object.__getattribute__» ⟨[.ref x,.str name ea],[]⟩) Q E s:=by have fe:=I.type (M:=model prog w);have V:slotArgs "__getattribute__" 1 ⟨[.ref x,.str name ea],[]⟩=pure (.ref x,[.str name ea]):=rfl;unfold Builtin.«object.__getattribute__»;refine wpAny_bind<|wpAny_pure ?_;refine wpAny_bind<|wpAny_pure ?_;refine wpAny_bind<|fe.here<|wpAny_bind<|X.here ?_;exact wpAny_pure q
theorem FO:builtinKind "BaseException.__getattribute__"=some .slot:=by decide+kernel
theorem FP:splitId "BaseException.__getattribute__"=some ("BaseException","__getattribute__"):=by decide+kernel
theorem FQ{M A E s self Z Q}(aj:Looks M s.heap (isInstance self<|.type "BaseException") true)(q:Q () s):wpAny M A (checkBuiltinCall "BaseException.__getattribute__" ⟨[self,Z],[]⟩) Q E s:=
 @check_slot M A E s "BaseException.__getattribute__" "BaseException" "__getattribute__" self [Z] [] Q FO FP aj (PySem.F.args_bexc_ga self Z) q
theorem FR{prog w A s x C Z Y name ea v R}(I:PySem.W.InstAt s.heap x Z C Y)(aj:Looks (model prog w) s.heap (isInstance (.ref x)<|.type "BaseException") true)(X:Looks (model prog w) s.heap (Builtin.ObjectAttr.find (.ref x) (.ref C) name) (.value v))(q:R (.ok<|.ret v) s):codeAny (model prog w) A (.call (.builtin "BaseException.__getattribute__") ⟨[.ref x,.str name ea],[]⟩) R s:=
 codeAny_call_builtin v6.plain PySem.F.entry_bexc_ga (FQ aj<|FN I X q)
set_option tactic.hygienic true in
theorem FS(X:K.In B.h₀){C n}(h:rI K C n=true):oL B C n:=by
 unfold rI at h;simp(iota:=false)only[Bool.and_eq_true]at h;obtain⟨Y,U⟩:=h;have T:=Y;unfold oY at Y;simp(iota:=false)only[Bool.and_eq_true,decide_eq_true_eq]at Y;obtain⟨⟨⟨R,P⟩,N⟩,_⟩:=Y;split at U;rotate_left;trivial;rename_i attr L;intro A E s x J H v Q e keep I G F q;have V:=X.keeps keep;refine wpAny_bind<|wpAny_mkText ?_;have y:(Value.builtin "BaseException.__getattribute__"==Value.builtin "object.__getattribute__")=false:=by decide+kernel
 have D:PySem.W.InstAt ({s with toks:=s.toks+1}:Shared).heap x J C (some H):=I;refine wpAny_holding<|wpAny_bind<|D.type _ _ _ _ (fun O O e=>e)<|wpAny_bind<|looks_findIn V R _ _ _ _ (fun O O e=>e) ?_;dsimp only;unfold getAttrByItsOwn hookBefore;have u:onTheHeap (.ref C)=true:=rfl;refine wpAny_bind<|looks_findIn V P _ _ _ _ (fun O O e=>e) ?_;refine wpAny_bind<|wpAny_attempt<|wpAny_holding ?_;unfold callGetattribute;have S:(e&&onTheHeap (Value.builtin "BaseException.__getattribute__"))=false:=by cases e<;>rfl
 rw[S,if_neg<|of_decide_eq_true rfl];unfold boundAndCalled;rw[v6.bind];refine wpAny_bind<|wpAny_pure ?_;refine wpAny_call ?_;have z:=looks_find (M:=model B.prog B.w) V I<|findObj_own N L U G;refine FR (s:={s with toks:=s.toks+1}) I (FM X T keep I) z ?_;show wpAny _ _ (handedOut v) _ _ _;exact Z (handedOut_of F)<|wpAny_pure q
theorem FT:builtinOwn "Exception" "__setattr__"=none:=by kernel_rfl
theorem FU:builtinOwn "BaseException" "__setattr__"=none:=by kernel_rfl
theorem v7(self)(Y)(n)(r)(X:(n=="_thread._local")=false)(W:(n=="_pickle.Pickler"||n=="_pickle.Unpickler")=false)(V:builtinOwn n Y=none):
  refuseLoop self Y (.type n::r)=refuseLoop self Y r:=by
 unfold refuseLoop;rw[forIn_cons];simp only[X,W,Bool.false_eq_true,if_false];have U:classOwn (.type n) Y=pure none:=a4 V;exact Z U rfl
noncomputable def k8:List Value->Bool|[]=>false|v::r=>match v with|.type n=>(match r with|[]=>n=="object"|_::_=>(n=="Exception"||n=="BaseException")&&k8 r)|.ref _=>k8 r|_=>false
set_option tactic.hygienic true in
theorem oZ(self):∀{l:List Value},k8 l=true->refuseLoop self "__setattr__" l=pure ()
 |[],h=>by trivial
 |v::r,h=>by
  have X:∀{P:Prop},false=true->P:=fun h=>by trivial
  cases v<;>first|exact X h|skip
  case ref c=>rw[refuseLoop_ref];exact oZ self h
  case type n=>
   cases r with
   |nil=>exact Z (show n="object" from beq_iff_eq.mp h)<|PySem.F.store_object.passes self
   |cons b r=>
    obtain⟨W,Y⟩:=Bool.and_eq_true_iff.mp (show((n=="Exception"||n=="BaseException")&&k8 (b::r))=true from h);rcases Bool.or_eq_true_iff.mp W with q|q<;>rw[show n=_ from beq_iff_eq.mp q]
    .exact(v7 self _ _ _ (by rfl) (by rfl) FT).trans<|oZ self Y
    .exact(v7 self _ _ _ (by rfl) (by rfl) FU).trans<|oZ self Y
theorem FV{prog w name X t v es Z}(W:Pairs (strKind prog w) es Z):(Z.map (·.1)).Nodup->Pairs (strKind prog w) (putL name X (.str name t) v es) (stored Z name v):=by
 induction W with
 |nil=>
  intro O;have:(strKind prog w).is name (.str name t)=true:=by show Value.isStrOf name (.str name t)=true;exact decide_eq_true rfl
  exact .cons this rfl .nil
 |@cons e V es Z Y U T ab=>
  intro aC;obtain⟨k,u⟩:=V;have S:e.key.isStr name=decide (k=name):=by refine(Value.isStrOf_shape Y).elim fun Q R=>?_;rw[R];by_cases q:k=name;subst q;rfl;rfl
  unfold putL;rw[S];by_cases q:k=name
  .subst q;rw[qP aC];simp(iota:=false)only[decide_true,if_true];exact .cons Y rfl T
  .rw[qO q];simp(iota:=false)only[q,decide_false,Bool.false_eq_true,if_false];exact .cons Y U<|ab (nodup_cons.mp aC).2
set_option tactic.hygienic true in
theorem FW{Y}{k:Str}{v}(aC:(Y.map (·.1)).Nodup):((stored Y k v).map (·.1)).Nodup:=by
 unfold stored;split
 .rw[List.map_map];have:((fun x:Str×Value=>x.1) ∘ fun W=>if W.1=k then(W.1,v)else W)=fun x=>x.1:=by funext p;simp(iota:=false)only[Function.comp];split<;>rfl
  exact Z this aC
 .rename_i h;rw[map_append];refine nodup_append.mpr ⟨aC,aU,fun a U b V e=>?_⟩;simp at V;subst V e;refine(mem_map.mp U).elim fun p X=>?_;exact h<|List.any_eq_true.mpr ⟨p,X.1,by simpa using X.2⟩
theorem FX{prog w name t v}:∀{es:List DictEntry},(∀e∈es,∃k,(strKind prog w).is k e.key=true/\e.hash=(strKind prog w).hash k)->∀e∈putL name (hashStr w name) (.str name t) v es,∃k,(strKind prog w).is k e.key=true/\e.hash=(strKind prog w).hash k:=by
 intro es;induction es with
 |nil=>intro O e Z;simp[putL]at Z;subst Z;exact⟨name,by show Value.isStrOf name (.str name t)=true;exact decide_eq_true rfl,rfl⟩
 |cons d r ab=>
  intro h e Z;unfold putL at Z;split at Z
  .rcases bU Z with q|q
   .subst q;exact h d<|.head _
   .exact h e<|.tail _ q
  .rcases bU Z with q|q
   .subst q;exact h e<|.head _
   .exact ab (fun e Z=>h e<|.tail _ Z) e q
def mV(K:Frag)(C:Nat)(n:aa):Bool:=decide (findIn K (.ref C) "__setattr__"=some (some<|.builtin "object.__setattr__"))&&(match clsIn K C with|some be=>k8 be.mro&&be.mro.contains (.type "object")&&!be.mro.isEmpty&&be.hasDict|none=>false)
  &&decide (takerIn K C (aX n)=some none)
theorem rJ{C n}(h:mV K C n=true):∃be,fI (findIn K (.ref C) "__setattr__"=some (some<|.builtin "object.__setattr__")) (clsIn K C=some be) (k8 be.mro=true) (be.mro.contains (.type "object")=true) (be.mro.isEmpty=false) (be.hasDict=true):=by
 have h:=(Bool.and_eq_true_iff.mp h).1;have h:=Bool.and_eq_true_iff.mp h;have Z:=h.2;rcases q:clsIn K C with _|be
 .rw[q]at Z;trivial
 .rw[q]at Z;have Z:=Bool.and_eq_true_iff.mp Z;have Y:=Bool.and_eq_true_iff.mp Z.1;have X:=Bool.and_eq_true_iff.mp Y.1;exact⟨be,aU h.1,rfl,X.1,X.2,(Bool.not_eq_true' _).mp Y.2,Z.2⟩
theorem v8{prog w A s x C U T n ea v R}(X:K.In s.heap)(I:PySem.W.InstAt s.heap x U C T)(h:mV K C n=true)(k:∀b,wpAny (model prog w) A.in1 (Builtin.ObjectAttr.storeInOwnDict (.ref x) (.ref C) (.str (aX n) ea) (aX n) v b) (fun fin V=>match fin with|.done f=>R (.ok f) V|.again v9=>v9.quiet=true/\codeAny (model prog w) A v9 R V) (fun e V=>R (.error e) V) s):
  codeAny (model prog w) A (.call (.builtin "object.__setattr__") ⟨[.ref x,.str (aX n) ea,v],[]⟩) R s:=by
 have Y:=PySem.F.store_object;obtain⟨be,z⟩:=rJ h;have sub:Looks (model prog w) s.heap (isInstance (.ref x) (.type "object")) true:=I.type.andThen<|looks_mroIn X<|by unfold mroIn;rw[z.2,Option.bind_some,if_neg (by exact Z z.5<|of_decide_eq_true rfl),z.4]
 refine codeAny_call_builtin Y.slot.plain Y.entry<|@check_slot (model prog w) _ _ s "object.__setattr__" "object" "__setattr__" (.ref x) [.str (aX n) ea,v] [] _ Y.kind Y.split sub (Y.args (.ref x) (.str (aX n) ea) v) ?_;obtain⟨attr,S,Q⟩:=Option.bind_eq_some_iff.mp<|aU (Bool.and_eq_true_iff.mp h).2;have P:Looks (model prog w) s.heap (Builtin.ObjectAttr.storeTaker? attr) none:=by
  cases attr with
  |none=>exact .now
  |some a=>obtain⟨b,O,N⟩:=Option.map_eq_some_iff.mp Q;refine(looks_takesIn X O).andThen ?_;cases b;exact .now;trivial
 rw[osa_eq,refuse_eq];refine wpAny_bind<|wpAny_bind<|I.type.here<|wpAny_bind<|((looks_clsIn X z.2).andThen .now:Looks (model prog w) s.heap (mroOf<|.ref C) be.mro).here ?_;rw[oZ _ z.3];exact wpAny_pure<|wpAny_bind<|I.type.here<|wpAny_bind<|(looks_findIn X S).here<|wpAny_bind<|P.here<|k _
theorem wa{A s d T Y n ea v Q E}(D:s.heap.get? d=some T)(S:T.IsDictOf (strKind B.prog B.w) Y)(J:Y.length<=900)(q:∀X R o',(∀b o,b≠d->s.heap.get? b=some o->X.get? b=some o)->X.get? d=some o'->o'.IsDictOf (strKind B.prog B.w) (stored Y (aX n) v)->Q (.done<|.ret .none) {s with heap:=X,toks:=R}):
  wpAny (model B.prog B.w) A (Builtin.ObjectAttr.storeInDict d (.str (aX n) ea) (aX n) v) Q E s:=by
 obtain⟨l,ep,P,O,I⟩:=u5 S;subst P;have W:l.any (·.refKey)=false:=by rw[Array.any_eq_false];intro i aj;obtain⟨k,N,_⟩:=O l[i]<|Array.getElem_mem aj;obtain⟨t,H⟩:=Value.isStrOf_shape N;simp[DictEntry.refKey,H]
 have M:Obj.putName (aX n) (hashStr B.w (aX n)) (.str (aX n) s.toks) v {cls:=.type "dict",data:=.dict l ep}=dictOf (putL (aX n) (hashStr B.w<|aX n) (.str (aX n) s.toks) v l.toList) (putN (aX n) l.toList ep):=putName_dict ..;have L:(s.heap.update d (Obj.putName (aX n) (hashStr B.w (aX n)) (.str (aX n) s.toks) v)).get? d=some (dictOf (putL (aX n) (hashStr B.w (aX n)) (.str (aX n) s.toks) v l.toList) (putN (aX n) l.toList ep)):=by rw[<-M];exact Heap.get?_update_self _ D<|a4 M
 have aC:(Y.map (·.1)).Nodup:=by obtain⟨_,_,_,_,_,_,aC⟩:=S;exact aC
 have K:=FV (name:=aX n) (X:=hashStr B.w<|aX n) (t:=s.toks) (v:=v) I aC;refine wpAny_bind<|wpAny_pure<|wpAny_bind ?_;unfold nsSet;refine wpAny_bind<|wpAny_bind<|wpAny_askSetting<|wpAny_pure<|wpAny_bind<|wpAny_mkText<|wpAny_bind<|wpAny_loadPart D ?_;dsimp only;have c:(!l.any (·.key.isStr (aX n))&&l.any (·.refKey))=false:=by rw[W,Bool.and_false]
 rw[aRefKeyMayBeTheName_at,c];refine wpAny_updatePart D ?_;have V:(putL (aX n) (hashStr B.w (aX n)) (.str (aX n) s.toks) v l.toList).length<=1000:=by
  rw[K.length];have:(stored Y (aX n) v).length<=Y.length+1:=by unfold stored;split<;>simp
  exact((az 0x204804220438414404087d028888102) J this)
 refine wpAny_bind<|wpAny_lookBehind L (pastItsLine_dict<|Z List.size_toArray<|Z sizeLine_eq<|af V) ?_;refine wpAny_pure<|q _ _ _ (fun b o G e=>(Heap.get?_update_ne _ _ _ _ G).trans e) L ⟨_,_,⟨rfl,rfl,rfl⟩,rfl,?_,?_,FW aC⟩;intro e U;exact FX (fun e U=>O e<|Array.mem_toList_iff.mp U) e (by simpa using U);trivial
theorem FY(X:K.In B.h₀){C n}(h:mV K C n=true):q2 B C n:=by intro A E s x d V J v P Q keep I U T S q;obtain⟨be,z⟩:=rJ h;have Y:=X.keeps keep;refine set_plain Y I z.1<|v8 (s:={s with toks:=s.toks+1}) Y I h fun b=>?_;obtain⟨R,Z,H,W⟩:=I;obtain⟨G,N,M,L⟩:=V;dsimp only at Z U;subst Z U;refine wpAny_bind<|wpAny_pure<|wpAny_bind<|wpAny_bind<|wpAny_loadPart R<|wpAny_bind<|(looks_clsIn Y z.2) _ _ _ _ (fun O O e=>e) ?_;rw[z.6];exact wpAny_pure (a:=some d)<|wa (s:={s with toks:=s.toks+1}) W T S fun a b o=>q a o b
variable{n:Nat}
theorem b1.made{F A U C us}(x:b1 F A U 8):rv F (A.under<|.builtin "type.__call__" ⟨.ref C::us,[]⟩) U:=by
 have e:A.under (.builtin "type.__call__" ⟨.ref C::us,[]⟩)={A with depth:=A.depth+(Code.builtin "type.__call__" ⟨.ref C::us,[]⟩).weight,units:=A.units+(Code.builtin "type.__call__" ⟨.ref C::us,[]⟩).cUnits}:=by unfold Around.under;rfl
 have w:(Code.builtin "type.__call__" ⟨.ref C::us,[]⟩).weight=1:=by rfl
 have u:(Code.builtin "type.__call__" ⟨.ref C::us,[]⟩).cUnits<=10:=by
  show 1+3*(Code.builtin "type.__call__" ⟨.ref C::us,[]⟩).frames<=10;have:(Code.builtin "type.__call__" ⟨.ref C::us,[]⟩).frames=0:=by rfl
  exact((aF 0x80c1150420304e04a8101) this)
 exact Z w ⟨x.handled,x.frames,x.guards,by have:=x.depth;show A.depth+1<=401+2*(F.ups.length+1);exact((az 0x204885027901250081081221409e44495024028101) this),by have:=x.units;show A.units+_<=210+60*(F.ups.length+1);exact((aT 0x204905e0679020a808442810a084040840920bc0cf4841400428102) u this)⟩
theorem FZ{C:Nat}{be}(h:clsIn K C=some be):cP fun a b s=>K.lookup C=some ⟨a,b,.cls be,s⟩:=by
 unfold clsIn at h;rcases q:K.lookup C with _|⟨a,b,d,s⟩
 .rw[q]at h;exact no h
 .rw[q]at h;cases d with
  |cls c=>obtain rfl:=a2 h;exact⟨_,_,_,rfl⟩
  |_=>exact no h
theorem wb(X:K.In B.h₀){C:Nat}(h:specialIn K (.ref C) "__call__"=some (some<|.builtin "type.__call__"))(Z:(clsIn K C).isSome=true):j5 B (.ref C):=by refine(Option.isSome_iff_exists.mp Z).elim fun be Z=>?_;refine(FZ Z).elim fun W V aJ Y=>?_;refine⟨.machine,fun A Q E s k q=>?_⟩;unfold keeperOf;refine wpAny_bind<|wpAny_load (k _ _<|X _ _ Y) ?_;dsimp only;refine wpAny_bind<|looks_specialIn X h _ _ _ _ k ?_;exact wpAny_pure q
theorem wc(x:gw B L)(X:K.In B.h₀){C V:Nat}{dQ fn}(w:makesIn K C=true)(aj:findIn K (.ref C) "__init__"=some (some<|.ref V))(u:typeIn K (.ref V)=some (.type "function"))(Q:specialIn K (.ref C) "__call__"=some (some<|.builtin "type.__call__"))(O:(clsIn K C).isSome=true)(W:hU K L.glob dQ V=some fn)(q:n<=90){U ad P E h}(k:∀d a,h d=none->h a=none->d≠a->aR.call (c8 B L<|n+1) U fn (.Y a::ad) (fun v p=>v=.a5/\P (.Y a) p) E ((h.set d<|.bK []).set a<|.dt C d)):(c8 B L n).call U (.Y C) ad P E h:=by
 intro F A J f us l hL T j N M I;have:=b7 M;subst this N I;refine⟨wb X Q O,⟨fun s R=>wpAny_call ?_⟩⟩;refine R.elim fun st m i r e=>?_;have S:=X.keeps r.keep;obtain⟨Z,g,c,t,os⟩:=s;refine(oX X W).elim fun fd body aI b ds fa=>?_;have H:=r.alloc (o:=emptyDict) (ao:=.bK []) ⟨[],q8 _,rfl⟩;have G:=H.alloc (o:=instObj C Z.objs.size) (ao:=.dt C Z.objs.size) ⟨#[],rfl⟩;rw[Heap.size_push]at G;have D:J.h (Z.objs.size+1)=none:=by have:=H.fresh;rw[Heap.size_push]at this;unfold ar.set at this;split at this;trivial;exact this
 have R2:aS B F {J with h:=(J.h.set Z.objs.size (.bK [])).set (Z.objs.size+1) (.dt C Z.objs.size)} ⟨(Z.push emptyDict).push (instObj C Z.objs.size),g,c,t,os⟩:=⟨st,m,i,G,e⟩;refine make_core (makes_of S w) (looks_findIn S aj) (fun self=>bind_fn S self u) (.inl rfl)<|codeAny_mono (rx x fa rfl q (J:={J with h:=(J.h.set Z.objs.size (.bK [])).set (Z.objs.size+1) (.dt C Z.objs.size)}) l T j.made (k Z.objs.size (Z.objs.size+1) r.fresh D (ne_add_one Z.objs.size)) R2) fun r s' z=>?_;cases r with
 |error rfl=>exact z
 |ok f=>
  cases f with
  |ret v=>obtain⟨y,bC,hl,hv,hp⟩:=z;exact⟨mx hv,y,bC,hl,hp⟩
  |_=>exact z
theorem F0(X:K.In B.h₀){C n}(h:mV K C n=true):q3 B C n:=by intro A E s x ad aJ v Q keep Y q;have I:PySem.W.InstAt s.heap x ⟨.ref C,none,.fields ad,aJ⟩ C none:=⟨Y,rfl,rfl,trivial⟩;obtain⟨be,z⟩:=rJ h;have U:=X.keeps keep;refine set_plain U I z.1<|v8 (s:={s with toks:=s.toks+1}) U I h fun b=>?_;have Z:x≠s.heap.objs.size:=ne_of_lt<|Heap.lt_size Y;have V:=Heap.get?_push_of_some {cls:=.type "dict",data:=.dict #[]} Y;have S:=Heap.get?_update_self (fun o:Obj=>{o with dict:=some s.heap.objs.size}) V rfl;refine wpAny_bind<|wpAny_pure<|wpAny_bind<|wpAny_bind<|wpAny_loadPart Y<|wpAny_bind<|(looks_clsIn U z.2) _ _ _ _ (fun O O e=>e) ?_;rw[z.6];show wpAny _ _ (do let d<-alloc {cls:=.type "dict",data:=.dict #[]};update x (fun o=>{o with dict:=some d});dictMade (.ref C) x d) _ _ _;refine wpAny_bind<|wpAny_alloc<|wpAny_bind<|wpAny_update V<|wpAny_bind<|wpAny_pure ?_;refine wpAny_pure<|wa (s:=⟨(s.heap.push {cls:=.type "dict",data:=.dict #[]}).update x (fun o:Obj=>{o with dict:=some s.heap.objs.size}),s.gens,s.drawn,s.toks+1,s.os⟩) ((Heap.get?_update_ne _ _ _ _ Z.symm).trans (Heap.get?_push_size _ rfl)) (q8 _) (zero_le _) fun T R o' k g P=>?_;exact q T R o' (fun b o N e=>k b o (ne_of_lt<|Heap.lt_size e)<|(Heap.get?_update_ne _ _ _ _ N).trans<|Heap.get?_push_of_some _ e) (k x _ Z S) g P
theorem F1:typeOf (.type "Exception")=pure (.type "type"):=by kernel_rfl
theorem F2:opaqueClassAbove (.type "Exception")=pure none:=by kernel_rfl
theorem F3:findIn K (.type "type") "__getattribute__"=some (some<|.builtin "type.__getattribute__"):=by kernel_rfl
theorem F4:hookBefore (.type "type")=pure none:=by kernel_rfl
theorem F5:subIn K (.type "type") (.type "type")=some true:=by kernel_rfl
theorem F6:findCls K (.type "Exception") (.type "type") "__init__"=some (.val<|.builtin "Exception.__init__"):=by kernel_rfl
theorem F7(X:K.In B.h₀):oM B (.cg "Exception") kx (.b5 "Exception.__init__"):=by
 refine⟨.builtin "Exception.__init__",rfl,?_⟩;intro A E s W Q V Y keep q;have:=oB Y;subst this;have U:aX kx="__init__":=by decide+kernel
 refine wpAny_bind<|wpAny_pure ?_;dsimp only;have h:wpAny (model B.prog B.w) A (getAttr (.type "Exception") "__init__") (fun v=>Q (v,[])) E s:=by refine cls_open (X.keeps keep) (Looks.of_pure F2) (Looks.of_pure F1) F3 (Looks.of_pure F4) F5 F6<|wpAny_pure ?_;show wpAny _ _ (handedOut _) _ _ _;exact Z (handedOut_of<|by kernel_rfl)<|wpAny_pure<|q _
 exact wpAny_bind<|wpAny_mono h (fun O O z=>wpAny_pure z) fun O O z=>z
def rK(K:Frag)(C:Nat)(n:aa)(f:Nat):Bool:=decide (specialIn K (.ref C) "__getattribute__"=some (some<|.builtin "type.__getattribute__"))&&readsIn K C (.type "type")&&(match findCls K (.ref C) (.type "type") (aX n)with|some (.val v)=>decide (v=.ref f)|_=>false)
set_option tactic.hygienic true in
theorem F8(X:K.In B.h₀){C f n}(h:rK K C n f=true):oM B (.Y C) n (.Y f):=by unfold rK at h;simp only[Bool.and_eq_true,decide_eq_true_eq]at h;refine h.elim fun Z W=>?_;refine Z.elim fun T S=>?_;split at W;rotate_left;trivial;rename_i v R;simp only[decide_eq_true_eq]at W;subst W;refine⟨.ref f,rfl,?_⟩;intro A E s P Q O V keep q;have:=b7 V;subst this;have U:=X.keeps keep;exact method_cls U T<|cls_value U S R rfl<|q _
noncomputable abbrev wd:List Value:=[.type "Exception",.type "BaseException",.type "object"]
def mW(K:Frag)(C:Nat):Prop:=∃nm q N X Z sn sub W Y V U T S R Q,K.lookup C=some (excClassObj nm q C N X wd Z sn sub W Y V U T S R Q "Exception.__new__")
theorem F9{prog w A E s a o ad v Q}(X:s.heap.get? a=some o)(U:o.data=.fields ad)(Y:0<ad.size)(q:Q (.done<|.ret .none) {s with heap:=(s.heap.push {cls:=.type "tuple",data:=.seq #[v]}).update a (Obj.mapFields (·.setIfInBounds 0 (.ref s.heap.objs.size)))}):
  wpAny (model prog w) A (Builtin.«BaseException.__init__» ⟨[.ref a,v],[]⟩) Q E s:=by
 have Z:=Heap.get?_push_of_some {cls:=.type "tuple",data:=.seq #[v]} X;have W:ad[0]?=some ad[0]:=by simp[Y]
 refine wpAny_bind<|wpAny_newObj_type ?_ ?_
 .refine wpAny_bind<|wpAny_bind<|wpAny_field Z U W ?_;refine wpAny_bind<|wpAny_setField Z U Y ?_;split;exact wpAny_bind<|wpAny_holding<|wpAny_point<|wpAny_pure<|wpAny_pure q;exact wpAny_pure<|wpAny_pure q
 .exact a1
theorem Ga(X:K.In B.h₀){C}(I:mW K C){U P E h a v}(Z:h a=some (.dY C))(k:P .a5 h):(c8 B L n).call U (.b5 "Exception.__init__") [.Y a,v] P E h:=by refine rE iy ix fun F A J us d c V T=>?_;obtain⟨u,w,rfl,H,hw⟩:=k2 V;have:=b7 H;subst this;subst T;refine⟨fun s R=>?_⟩;obtain⟨G,g,i,t,os⟩:=s;obtain⟨st,m,D,r,f⟩:=R;obtain⟨_,o,W,ad,aJ,rfl,S,z,y,x⟩:=r.objs _ _ Z;obtain⟨nm,q,N,bs,p,sn,sub,ab,e,dd,k0,k1,a0,k3,k5,l⟩:=I;have Q:=PySem.F.excCall_Exception;refine wpAny_call<|codeAny_call_builtin Q.init.plain Q.initEntry<|wpAny_check_init_subU PySem.F.excBase_Exception .base (r.keep _ _<|X _ _ l) W rfl ?_;refine F9 W rfl ((aF 0x283302000018111) S) ?_;have O:=Heap.get?_push_of_some {cls:=.type "tuple",data:=.seq #[w]} W;have M:=(r.push {cls:=.type "tuple",data:=.seq #[w]}).same (ao':=.dY C) Z (fun b o j q=>(Heap.get?_update_ne _ _ _ _ j).trans q) (Heap.get?_update_self (Obj.mapFields (·.setIfInBounds 0 (.ref G.objs.size))) O rfl) ⟨_,aJ,rfl,by simpa using S,by rw[Array.getElem?_setIfInBounds_ne<|of_decide_eq_true rfl];exact z,by rw[Array.getElem?_setIfInBounds_ne<|of_decide_eq_true rfl];exact y,x⟩;rw[ar.set_same Z]at M;exact⟨J,⟨st,m,D,M,f⟩,rfl,k⟩
theorem we(X:K.In B.h₀){C}(Z:mW K C):i3 B C:=by obtain⟨nm,q,N,U,Y,sn,sub,T,V,S,R,Q,P,O,M,W⟩:=Z;exact⟨_,_,_,X _ _ W,by rw[contains_cons,Bool.or_eq_true];exact .inr (by decide+kernel),by simp,rfl⟩
theorem Gb(x:gw B L)(X:K.In B.h₀){C D:Nat}{dQ fn}(u:mW K C)(aj:findIn K (.ref C) "__init__"=some (some<|.ref D))(hf:typeIn K (.ref D)=some (.type "function"))(p:specialIn K (.ref C) "__call__"=some (some<|.builtin "type.__call__"))(l:(clsIn K C).isSome=true)(O:hU K L.glob dQ D=some fn)(hn:n<=90){U ad P E h}(I:ad.length<=100)(k:∀a,h a=none->aR.call (c8 B L<|n+1) U fn (.Y a::ad) (fun v h'=>v=.a5/\P (.Y a) h') E (h.set a<|.dY C)):(c8 B L n).call U (.Y C) ad P E h:=by
 intro F A J f us hF hL y hA j i d;have:=b7 i;subst this j d;refine⟨wb X p l,⟨fun s R=>wpAny_call ?_⟩⟩;obtain⟨st,m,cv,r,ft⟩:=R;have c:=X.keeps r.keep;obtain⟨Z,g,H,t,os⟩:=s;have xC:=we X u;obtain⟨fd,body,aI,a2,ds,fa⟩:=oX X O;obtain⟨nm,q,N,bs,a3,sn,sub,ab,a4,dd,k0,k1,k2,k3,k5,a0⟩:=u;have W:=c _ _ a0;have S:=PySem.F.excBase_Exception;have f1:=tc_lookup;have f2:=tc_bind<|.ref C;have hT:(⟨Z,g,H,t,os⟩:Shared).TypeIs (.ref C) "type":=⟨_,W,rfl⟩;have r1:=r.push {cls:=.type "tuple",data:=.seq us.toArray};have r2:=r1.alloc (o:={cls:=.ref C,data:=.fields #[.ref Z.objs.size,.none,.none,.none,.bool false,.none]}) (ao:=.dY C) ⟨_,#[],rfl,le_add_right _ _,rfl,rfl,xC⟩;rw[Heap.size_push]at r2;have fr:J.h (Z.objs.size+1)=none:=by have:=r1.fresh;rw[Heap.size_push]at this;exact this
 have kk:=k _ fr;have e:V.Y (Z.objs.size+1)::bo us=bo (.ref (Z.objs.size+1)::us):=rfl;rw[e]at kk;have R2:aS B F {J with h:=J.h.set (Z.objs.size+1) (.dY C)} ⟨(Z.push {cls:=.type "tuple",data:=.seq us.toArray}).push {cls:=.ref C,data:=.fields #[.ref Z.objs.size,.none,.none,.none,.bool false,.none]},g,H,t,os⟩:=⟨st,m,cv,r2,ft⟩;have fin:=rx x fa rfl hn (J:={J with h:=J.h.set (Z.objs.size+1) (.dY C)}) hF y (hA.made (C:=C) (us:=us)) kk R2;refine codeAny_of_tree ?_
 repeat(any_goals(first|assumption|with_reducible refine wpAny_loadPart_at W ?_|wp_step))
 refine⟨rfl,?_⟩;refine codeAny_call_builtin_at (Code.quiet_builtin _<|by decide+kernel) entry_typeCall (wpAny_check_type_call_sub W ?_)
 repeat(first|with_reducible refine wpAny_loadPart_at W ?_|with_reducible refine wpAny_madeBy_exc W ?_|wp_step)
 refine codeAny_call_builtin_code (Code.quiet_builtin _ S.quiet)<|wpAny_check_new_subU S S.hasB .base W ?_;refine codeAny_exc_new_subU S S.hasB S .base W ?_ ?_
 .skip;have Q:((Z.push {cls:=.type "tuple",data:=.seq us.toArray}).push
   {cls:=.ref C,data:=.fields #[.ref Z.objs.size,.none,.none,.none,.bool false,.none]}).get? (Z.objs.size+1)=some
   {cls:=.ref C,data:=.fields #[.ref Z.objs.size,.none,.none,.none,.bool false,.none]}:=by heap_get
  have G:(Value.ref C::wd).contains (.ref C)=true:=by simp
  have kp:∀b o,Z.get? b=some o->((Z.push {cls:=.type "tuple",data:=.seq us.toArray}).push {cls:=.ref C,data:=.fields #[.ref Z.objs.size,.none,.none,.none,.bool false,.none]}).get? b=some o:=fun b o e=>Heap.get?_push_of_some _<|Heap.get?_push_of_some _ e;have T:=kp _ _ W;have X1:=c.keeps kp
  repeat(first|with_reducible refine wpAny_loadPart_at Q ?_|(with_reducible refine wpAny_isSubtype_exc T ?_;rw[G])|wp_step)
  refine wpAny_isSubtype_exc T ?_;rw[G];have t1:Looks (model B.prog B.w) ((Z.push {cls:=.type "tuple",data:=.seq us.toArray}).push {cls:=.ref C,data:=.fields #[.ref Z.objs.size,.none,.none,.none,.bool false,.none]}) (typeOf<|.ref<|Z.objs.size+1) (.ref C):=(Looks.ld Q).andThen .now;have i1:=looks_findIn (M:=model B.prog B.w) X1 aj;have b1:=bind_fn (M:=model B.prog B.w) X1 (.ref<|Z.objs.size+1) hf;refine wpAny_bind<|wpAny_holding ?_;refine wpAny_bind<|wpAny_bind<|t1.at<|i1.at ?_;refine wpAny_holding<|wpAny_bind (b1.at ?_);refine wpAny_bind<|wpAny_call<|codeAny_mono fin fun r s' z=>?_;cases r with
  |error e=>exact z
  |ok f=>
   cases f with
   |ret v=>obtain⟨a1,bC,hl,hv,hp⟩:=z;have:=mx hv;subst this;exact wpAny_pure<|wpAny_pure ⟨a1,bC,hl,hp⟩
   |_=>exact z
 .skip;simp[bo]at I;rw[sizeLine_eq];exact af I
end
section
variable{B:bY}{L:Look}{n:Nat}{U:Option Nat}{K:a3 V}{E:a3 Nat}{h:ar}
theorem wg{Z}(X:Z.In B.h₀){C:Nat}(e:isNotIn Z "str" C=true){x}(k:K (.aP false) h):(c8 B L n).call U (.b5 "isinstance") [.S x,.Y C] K E h:=
 iw iy ix (fun F A J us s Q H W I R V=>by obtain⟨u,w,rfl,T,N⟩:=k2 W;obtain⟨t,rfl⟩:=cN T;have:=b7 N;subst this;exact isn_call (P:=fun O=>True) (X.keeps R.keep) (fun M=>Looks.of_pure rfl) e (by intro q;trivial) trivial str_cls<|V _ (s.toks+1) rfl) k
end
end
theorem eU{q}:∀i,V.Y q≠V.b5 i:=nofun
theorem hq{q}:∀i,V.ae q≠V.b5 i:=nofun
theorem ja{q}:∀i,V.S q≠V.b5 i:=nofun
theorem d4{i}(h:-4611686018427387904<i/\i<4611686018427387904):iq (.ae i)=true:=Bool.and_eq_true_iff.mpr ⟨decide_eq_true h.1,decide_eq_true h.2⟩
structure cb where
 msg:aa
 d5:List aa
def b9(c:Nat):Bool:=dh (.S [c]) [.S [32],.S [9],.S [10],.S [11],.S [12],.S [13]]
noncomputable def dig(c:Nat):Int:=if 48<=c/\c<=57 then(c:Int)-48 else if 97<=c/\c<=122 then(c:Int)-87 else if 65<=c/\c<=90 then(c:Int)-55 else-1
noncomputable def iz(Z:Int):aa->Int->Option Int|[],v=>some v|c::r,v=>if dig c<0\/Z<=dig c then none else iz Z r (v*Z+dig c)
theorem Gc:∀(Z x:Int)(c:Nat)(r:aa),iz Z (c::r) x=if dig c<0\/Z<=dig c then none else iz Z r (x*Z+dig c):=by intros;rfl
def fx(t:aa)(Z:Int):Option Int:=if t=[]then none else iz Z t 0
noncomputable def baseOf(c:Nat):Int:=if c=120\/c=88 then 16 else if c=111\/c=79 then 8 else if c=98\/c=66 then 2 else if c=100\/c=68 then 10 else 0
noncomputable def dz:aa->aa|[]=>[]|c::r=>if b9 c then dz r else c::r
theorem k9:∀(c:Nat)(r:aa),dz (c::r)=if b9 c=true then dz r else c::r:=by intros;rfl
def trim(t:aa):aa:=(dz (dz t).reverse).reverse
def hr(neg:Bool)(t:aa):Option Int:=
 let v:=match t with|a::m::r=>if a=48/\r≠[]/\0<baseOf m then fx r (baseOf m)else fx t 10|_=>fx t 10
 v.map fun v=>if neg then-v else v
noncomputable def wholeOf(t:aa):Option Int:=match trim t with|c::r=>if c=45 then hr true r else if c=43 then hr false r else hr false (c::r)|[]=>hr false []
noncomputable def di:Nat->aa->Int->Int×aa|0,s,v=>(v,s)|_+1,[],v=>(v,[])|n+1,c::r,v=>if v<=69631 then(if dig c<0\/15<dig c then(v,c::r)else di n r (v*16+dig c))else(v,c::r)
theorem wh:∀(x:Int)(n c:Nat)(r:aa),di n.succ (c::r) x=if x<=69631 then if dig c<0\/15<dig c then(x,c::r)else di n r (x*16+dig c)else(x,c::r):=by intros;rfl
noncomputable def dH:Nat->aa->Int->Int×aa|0,s,v=>(v,s)|_+1,[],v=>(v,[])|n+1,c::r,v=>if v<32 then(if dig c<0\/7<dig c then(v,c::r)else dH n r (v*8+dig c))else(v,c::r)
theorem wi:∀(x:Int)(n c:Nat)(r:aa),dH n.succ (c::r) x=if x<32 then if dig c<0\/7<dig c then(x,c::r)else dH n r (x*8+dig c)else(x,c::r):=by intros;rfl
noncomputable def iA:aa->aa|[]=>[]|c::r=>if c=32\/c=9 then iA r else c::r
theorem wj:∀(c:Nat)(r:aa),iA (c::r)=if c=32\/c=9 then iA r else c::r:=by intros;rfl
noncomputable def look(d:Nat):List (Nat×Nat)->Option Nat|[]=>none|(a,b)::r=>if d=a then some b else look d r
theorem wk{d v l}(h:look d l=some v):(d,v)∈l:=by
 induction l with
 |nil=>cases h
 |cons p r ab=>obtain⟨a,b⟩:=p;by_cases q:d=a;exact Z q<|Z (a2<|(if_pos q).symm.trans h)<|.head _;exact .tail _<|ab<|(if_neg q).symm.trans h
def rL(c:Nat):Option Nat:=look c [(97,7),(98,8),(102,12),(110,10),(114,13),(116,9),(118,11)]
def bZ:aa->aa×aa
 |[]=>([92],[])
 |c::r=>match rL c with
  |some k=>([k],r)
  |none=>if c=10 then([32],iA r)
   else if c=120\/c=117\/c=85 then
    (let p:=di (if c=117 then 4 else if c=85 then 8 else 2) r 0
    if p.2.length=r.length then([c],r)else([p.1.toNat],p.2))
   else if 48<=c/\c<=55 then(let p:=dH 3 (c::r) 0;([p.1.toNat],p.2))
   else([c],r)
noncomputable def et(Z s:aa):Option cb:=match s with|[]=>none|c::_=>if b9 c then none else some ⟨pX++Z++pY++(s.take 20).takeWhile (fun c=>!b9 c)++pW,[cD,dX,hI,[74,85,78,75]]⟩
noncomputable def dd:Nat->aa->Option Nat|_,[]=>none|d,[c]=>if c=92 then none else if c=123 then none else if c=125 then(if d=1 then some 0 else none)else none|d,c::e::r=>if c=92 then(dd d r).map (·+2)else if c=123 then(dd (d+1)<|e::r).map (·+1)else if c=125 then(if d=1 then some 0 else(dd (d-1)<|e::r).map (·+1))else(dd d<|e::r).map (·+1)
theorem o0{d c}{r:aa}(Z:c≠92):dd d (c::r)=if c=123 then(dd (d+1) r).map (·+1)else if c=125 then(if d=1 then some 0 else(dd (d-1) r).map (·+1))else(dd d r).map (·+1):=by
 cases r with
 |nil=>exact if_neg Z
 |cons=>exact if_neg Z
theorem Gd(e)(r:aa)(d):dd d (92::e::r)=(dd d r).map (·+2):=rfl
noncomputable def wm:cb:=⟨tv,[cD,dX,hI,[66,82,65,67,69]]⟩
noncomputable def wn:cb:=⟨ts,[cD,dX,hI,[81,85,79,84,69]]⟩
def hs(s:aa):Except cb (aa×aa):=match dd 1 s with|none=>.error wm|some k=>match et [98,114,97,99,101,115] (s.drop (k+1))with|some e=>.error e|none=>.ok (s.take k,s.drop<|k+1)
theorem wo(n)(s)(v):(di n s v).2<:+s:=by
 induction n generalizing s v with
 |zero=>exact suffix_refl _
 |succ n ab=>
  cases s with
  |nil=>exact suffix_refl _
  |cons c r=>
   rw[wh];split
   .split;exact suffix_refl _;exact(ab r _).trans<|suffix_cons _ _
   .exact suffix_refl _
theorem Ge(n)(s)(v):(dH n s v).2<:+s:=by
 induction n generalizing s v with
 |zero=>exact suffix_refl _
 |succ n ab=>
  cases s with
  |nil=>exact suffix_refl _
  |cons c r=>
   rw[wi];split
   .split;exact suffix_refl _;exact(ab r _).trans<|suffix_cons _ _
   .exact suffix_refl _
theorem Gf:∀s:aa,iA s<:+s:=by
 intro s;induction s with
 |nil=>exact suffix_refl _
 |cons c r ab=>rw[wj];split;exact(ab).trans<|suffix_cons _ _;exact suffix_refl _
theorem o1:∀s:aa,dz s<:+s:=by
 intro s;induction s with
 |nil=>exact suffix_refl _
 |cons c r ab=>rw[k9];split;exact(ab).trans<|suffix_cons _ _;exact suffix_refl _
set_option tactic.hygienic true in
theorem hV(s):(bZ s).1.length=1/\(bZ s).2<:+s:=by
 unfold bZ;split;exact⟨rfl,suffix_refl _⟩
 .rename_i c r;split;exact⟨rfl,suffix_cons _ _⟩
  .split;exact⟨rfl,(Gf r).trans<|suffix_cons _ _⟩
   .split
    .dsimp only;generalize(if c=117 then 4 else if c=85 then 8 else 2)=m;split;exact⟨rfl,suffix_cons _ _⟩;exact⟨rfl,(wo _ _ _).trans<|suffix_cons _ _⟩
    .split;exact⟨rfl,Ge _ _ _⟩;exact⟨rfl,suffix_cons _ _⟩
theorem ka(s):(bZ s).2.length<=s.length:=(hV s).2.length_le
theorem rM{P:aa->Prop}(h:∀s,(∀t:aa,t.length<s.length->P t)->P s)(s):P s:=(measure List.length).wf.induction s h
@[irreducible] noncomputable def quoted:aa->Option (aa×aa):=WellFounded.Nat.fix List.length fun s=>match s with
 |[]=>fun _=>none
 |c::r=>fun Z=>if c=92 then(Z (bZ r).2<|lt_succ_of_le<|ka r).map fun p=>((bZ r).1++p.1,p.2)
  else if c=34 then some ([],r)
  else(Z r<|lt_succ_self _).map fun p=>(c::p.1,p.2)
theorem wp{P:aa->Prop}(case1:P [])(case2:∀r,P (bZ r).2->P (92::r))(case3:∀r,¬34=92->P (34::r))(case4:∀c r,¬c=92->¬c=34->P r->P (c::r))(s):P s:=by
 induction s using rM with
 |h s ab=>
  cases s with
  |nil=>exact case1
  |cons c r=>by_cases h:c=92;subst h;exact case2 r<|ab _<|lt_succ_of_le<|ka r;by_cases jb:c=34;subst jb;exact case3 r h;exact case4 c r h jb<|ab r<|lt_succ_self _
def hW(s:aa):Except cb (aa×aa):=match quoted s with|none=>.error wn|some p=>match et [113,117,111,116,101,115] p.2 with|some e=>.error e|none=>.ok p
@[irreducible] noncomputable def bare:aa->aa×aa:=WellFounded.Nat.fix List.length fun s=>match s with
 |[]=>fun _=>([],[])
 |c::r=>fun Z=>if b9 c then([],c::r)
  else if c=92 then((bZ r).1++(Z (bZ r).2<|lt_succ_of_le<|ka r).1,(Z (bZ r).2<|lt_succ_of_le<|ka r).2)
  else(c::(Z r<|lt_succ_self _).1,(Z r<|lt_succ_self _).2)
theorem wq{P:aa->Prop}(case1:P [])(case2:∀c r,b9 c=true->P (c::r))(case3:∀r,¬b9 92=true->P (bZ r).2->P (92::r))(case4:∀c r,¬b9 c=true->¬c=92->P r->P (c::r))(s):P s:=by
 induction s using rM with
 |h s ab=>
  cases s with
  |nil=>exact case1
  |cons c r=>by_cases h:b9 c=true;exact case2 c r h;by_cases jb:c=92;subst jb;exact case3 r h<|ab _<|lt_succ_of_le<|ka r;exact case4 c r h jb<|ab r<|lt_succ_self _
def cS(s:aa):Except cb (Option<|aa×aa):=match dz s with|[]=>.ok none|c::r=>if c=123 then(hs r).map some else if c=34 then(hW r).map some else .ok (some<|bare<|c::r)
theorem rN:quoted []=none:=by delta quoted;rw[WellFounded.Nat.fix_eq]
theorem rO(r:aa):quoted (92::r)=(quoted (bZ r).2).map fun p=>((bZ r).1++p.1,p.2):=by delta quoted;rw[WellFounded.Nat.fix_eq];rfl
theorem rP(r:aa):quoted (34::r)=some ([],r):=by delta quoted;rw[WellFounded.Nat.fix_eq];rfl
theorem rQ{c}(r:aa)(Z:c≠92)(Y:c≠34):quoted (c::r)=(quoted r).map fun p=>(c::p.1,p.2):=by delta quoted;rw[WellFounded.Nat.fix_eq];exact(dif_neg Z).trans<|dif_neg Y
theorem o2:bare []=([],[]):=by delta bare;rw[WellFounded.Nat.fix_eq]
theorem o3{c}(r:aa)(h:b9 c=true):bare (c::r)=([],c::r):=by delta bare;rw[WellFounded.Nat.fix_eq];exact dif_pos h
theorem kb(r:aa):bare (92::r)=((bZ r).1++(bare (bZ r).2).1,(bare (bZ r).2).2):=by delta bare;rw[WellFounded.Nat.fix_eq];rfl
theorem la{c}(r:aa)(h:b9 c=false)(Y:c≠92):bare (c::r)=(c::(bare r).1,(bare r).2):=by delta bare;rw[WellFounded.Nat.fix_eq];exact(dif_neg<|by exact Z h<|aU).trans<|dif_neg Y
theorem Gg:∀(s:aa)(p:aa×aa),quoted s=some p->p.1.length+p.2.length<s.length/\p.2<:+s:=by
 intro s;induction s using wp with
 |case1=>intro p h;rw[rN]at h;trivial
 |case2 r ab=>intro p h;rw[rO]at h;refine(Option.map_eq_some_iff.mp h).elim fun q Z=>?_;obtain rfl:=Z.2;have t1:=ab q Z.1;have t3:=hV r;exact⟨by simp(iota:=false)only[length_cons,length_append];exact((bV 0x81282048c108102020028118126108008128113) t1.1 t3.2.length_le t3.1),(t1.2.trans t3.2).trans<|suffix_cons _ _⟩
 |case3 r V=>intro p h;rw[rP]at h;obtain rfl:=a2 h;exact⟨by rw[length_nil,Nat.zero_add];exact lt_succ_self _,suffix_cons _ _⟩
 |case4 c r X W ab=>intro p h;rw[rQ r X W]at h;refine(Option.map_eq_some_iff.mp h).elim fun q Y=>?_;obtain rfl:=Y.2;have t:=ab q Y.1;exact⟨((aT 0x20200281181241088120128111) t.1),t.2.trans<|suffix_cons _ _⟩
theorem rR:∀(s:aa),(bare s).1.length+(bare s).2.length<=s.length/\(bare s).2<:+s:=by
 intro s;induction s using wq with
 |case1=>exact Z o2 ⟨Nat.le_refl _,suffix_refl _⟩
 |case2 c r h=>exact Z (o3 r h) ⟨Nat.le_of_eq<|Nat.zero_add _,suffix_refl _⟩
 |case3 r h ab=>rw[kb];have t:=hV r;exact⟨by simp(iota:=false)only[length_cons,length_append];exact((bV 0x81282048c108102020028108126108008128103) ab.1 t.2.length_le t.1),(ab.2.trans t.2).trans<|suffix_cons _ _⟩
 |case4 c r h Y ab=>exact Z (la r (eq_false_of_ne_true h) Y) ⟨((aT 0x20200281081241088120128101) ab.1),ab.2.trans<|suffix_cons _ _⟩
theorem Gh{c}{r:aa}:∀{t:aa},dz t=c::r->b9 c=false:=by
 intro t;induction t with
 |nil=>intro h;trivial
 |cons a t ab=>
  intro h;rw[k9]at h;split at h;exact ab h
  ·(injection h with h;subst h);apply eq_false_of_ne_true;assumption
theorem mX{s p}(h:cS s=.ok (some p)):p.1.length+p.2.length<=s.length/\p.2.length<s.length/\p.2<:+s:=by
 unfold cS at h;rcases Y:dz s with _|⟨c,r⟩
 .rw[Y]at h;cases h
 .
  rw[Y]at h;have X:=o1 s;rw[Y]at X
  suffices k:p.1.length+p.2.length<=r.length+1/\p.2<:+r from⟨bp k.1 X.length_le,Nat.lt_of_le_of_lt k.2.length_le X.length_le,(k.2.trans<|suffix_cons _ _).trans X⟩
  dsimp only at h;split at h
  .unfold hs at h;rcases q:dd 1 r with _|k
   .rw[q]at h;trivial
   .
    rw[q]at h;dsimp only at h;split at h;trivial;cases h;exact⟨bp (Nat.add_le_add_left (show(r.drop<|k+1).length<=(r.drop k).length from Z length_drop (Z length_drop<|Nat.sub_le_sub_left (le_succ k) _)) _)<|le_succ_of_le<|Nat.le_of_eq<|by rw[<-length_append,take_append_drop],drop_suffix _ _⟩
  .split at h
   .unfold hW at h;rcases q:quoted r with _|k
    .rw[q]at h;trivial
    .
     rw[q]at h;have t:=Gg r k q;dsimp only at h;split at h;trivial;cases h;exact⟨le_succ_of_le<|Nat.le_of_lt t.1,t.2⟩
   .cases h;refine⟨(rR<|c::r).1,?_⟩;by_cases g:c=92;subst g;rw[kb];exact(rR _).2.trans (hV r).2;exact Z (la r (Gh Y) g)<|(rR r).2
theorem o4{s p}(h:cS s=.ok (some p)):p.2.length<s.length:=(mX h).2.1
@[irreducible] noncomputable def cO:aa->Except cb (List aa):=WellFounded.Nat.fix List.length fun s Z=>match h:cS s with
 |.error e=>.error e
 |.ok none=>.ok []
 |.ok (some p)=>(Z p.2<|o4 h).map (p.1::·)
theorem rS{P:aa->Prop}(case1:∀s e,cS s=.error e->P s)(case2:∀s,cS s=.ok none->P s)(case3:∀s p,cS s=.ok (some p)->P p.2->P s)(s):P s:=by
 induction s using rM with
 |h s ab=>
  rcases h:cS s with e|o
  .exact case1 s e h
  .cases o with|none=>exact case2 s h|some p=>exact case3 s p h<|ab p.2<|o4 h
theorem gT{s}(h:cS s=.ok none):cO s=.ok []:=by delta cO;rw[WellFounded.Nat.fix_eq];split<;>simp_all
theorem hX{s p}(h:cS s=.ok (some p)):cO s=(cO p.2).map (p.1::·):=by delta cO;rw[WellFounded.Nat.fix_eq];split<;>simp_all
theorem kc{s e}(h:cS s=.error e):cO s=.error e:=by delta cO;rw[WellFounded.Nat.fix_eq];split<;>simp_all
noncomputable def ch:aa->Nat->Bool->Bool->Bool->Nat×Bool×Bool×Bool
 |[],d,b,Y,Z=>(if 0<d then 2 else 0,b,Y,Z)
 |[c],d,b,Y,Z=>if c=92 then(2,b,Y,Z)
  else if c=123 then(if 0<d+1 then 2 else 0,b,Y,Z)
  else if c=125 then(if d=0 then(2,b,Y,Z)else(if 0<d-1 then 2 else 0,b,Y,Z))
  else if c=93\/c=34 then(if 0<d then 2 else 0,true,Y,true)
  else if c=91\/c=36\/c=59\/b9 c=true then(if 0<d then 2 else 0,true,true,Z)
  else(if 0<d then 2 else 0,b,Y,Z)
 |c::e::r,d,b,Y,Z=>if c=92 then(if e=10 then(2,b,Y,Z)else if e=123\/e=125\/e=92 then ch r d true true Z else ch (e::r) d true true Z)
  else if c=123 then ch (e::r) (d+1) b Y Z
  else if c=125 then(if d=0 then(2,b,Y,Z)else ch (e::r) (d-1) b Y Z)
  else if c=93\/c=34 then ch (e::r) d true Y true
  else if c=91\/c=36\/c=59\/b9 c=true then ch (e::r) d true true Z
  else ch (e::r) d b Y Z
theorem jc{c}{r:aa}{d b Z Y}(X:c≠92):ch (c::r) d b Z Y=if c=123 then ch r (d+1) b Z Y
  else if c=125 then(if d=0 then(2,b,Z,Y)else ch r (d-1) b Z Y)
  else if c=93\/c=34 then ch r d true Z true
  else if c=91\/c=36\/c=59\/b9 c=true then ch r d true true Y
  else ch r d b Z Y:=by
 cases r with
 |nil=>exact if_neg X
 |cons=>exact if_neg X
theorem o5{e}{r:aa}{d b Y Z}:ch (92::e::r) d b Y Z=if e=10 then(2,b,Y,Z)else if e=123\/e=125\/e=92 then ch r d true true Z else ch (e::r) d true true Z:=rfl
def dR(e:aa)(X:Bool):Nat:=match e with
 |[]=>1
 |c::_=>
  let Y:=decide (c=123\/c=34)
  let Z:=X&&decide (c=35)
  let m:=ch e 0 Y (Y||Z) false
  if m.1=2 then 2 else if m.2.1 then(if m.2.2.2&&!m.2.2.1 then 3 else 1)else if Z then 1 else 0
def kd(c:Nat):Option Nat:=look c [(12,102),(10,110),(13,114),(9,116),(11,118)]
noncomputable def ez(c:Nat)(Z:Bool):aa:=match kd c with|some k=>[92,k]|none=>if(c=93\/c=91\/c=36\/c=59\/c=32\/c=92\/c=34)\/(Z=true/\(c=123\/c=125))then[92,c]else[c]
def eg(Z:Bool)(e:aa):aa:=(e.map fun c=>ez c Z).flatten
noncomputable def quote(e:aa)(Z:Bool):aa:=if dR e Z=0 then e else if dR e Z=1 then[123]++e++[125]else(if Z&&decide (e.head?=some 35)then[92]else[])++eg (decide (dR e Z=2)) e
noncomputable def quoteAll(b:Bool):List aa->List aa|[]=>[]|e::r=>quote e b::quoteAll false r
theorem Gi:∀(b:Bool),quoteAll b []=[]:=by intros;rfl
theorem Gj:∀(b:Bool)(e:aa)(r:List aa),quoteAll b (e::r)=quote e b::quoteAll false r:=by intros;rfl
def dm(l:List aa):aa:=eH [32]<|quoteAll true l
section
open PySem
set_option genInjectivity false in
inductive Op where
 |k (v:V)|x (i:Nat)
 |bin (X:Operator)|neg|hY|rT
 |wr (b:List Op)|wt (b:List Op)|wu (b:List Op)|ww (b:List Op)
 |cmp (X:CmpOp)|fq (X lb:CmpOp) (c:List Op)
 |ite (a b:List Op)
 |call (n:Nat)|aZ (m:eu) (as:List Op) (n:Nat)
 |attr (n:aa)|idx|aJ|tup (n:Nat)|list (n:Nat)|av (aI:List aa)|gk
 |bad|et
 |pop|asg (i:Nat)|ev (aO:aa)|wx (n:aa)|wy|c1 (i:Nat) (X:Operator) (e:List Op)
 |gm (n:aa) (X:Operator) (e:List Op)
 |ret|brk|raise|dO (t b:List Op)|b6 (aO:aa) (tup:Bool) (b:List Op)
 |comp (aO:aa) (tup:Bool) (bI:aa) (bX:List Op)|wz (aO:aa) (tup:Bool) (bI:aa) (bX c:List Op)
 |f3 (b:List Op) (name:Option Nat) (h:List Op)|im (b f:List Op)
abbrev cc:=List<|Option V
abbrev cT:=List V->cc->ar->Prop
abbrev KF:=oA->cc->ar->Prop
abbrev du:=Nat->cc->ar->Prop
noncomputable def hZ:cc->Nat->(V->Prop)->Prop|some v::_,0,k=>k v|_::l,i+1,k=>hZ l i k|_,_,_=>False
noncomputable def gU:cc->Nat->Option V->(cc->Prop)->Prop
 |_::l,0,v,k=>k<|v::l
 |a::l,i+1,v,k=>gU l i v fun l=>k<|a::l
 |[],_,_,_=>False
noncomputable def rU:cc->Nat->(Option V->Prop)->Prop|a::_,0,k=>k a|_::l,i+1,k=>rU l i k|[],_,k=>k none
noncomputable def o6:aa->cc->(cc->Prop)->Prop|[],_,k=>k []|j::Z,l,k=>rU l j fun o=>o6 Z l fun r=>k<|o::r
noncomputable def putK:aa->List V->cc->(cc->Prop)->Prop
 |[],[],l,k=>k l
 |i::aO,v::ad,l,k=>gU l i (some v) fun l=>putK aO ad l k
 |_,_,_,_=>False
@[reducible]def da(s:List V)(k:V->List V->Prop):Prop:=match s with
 |v::s=>k v s
 |_=>False
@[reducible]def lg(s:List V)(k:V->V->List V->Prop):Prop:=match s with
 |y::x::s=>k x y s
 |_=>False
@[reducible]def wA(s:List V)(k:V->V->V->List V->Prop):Prop:=match s with
 |z::y::x::s=>k x y z s
 |_=>False
noncomputable def iB:Nat->List V->List V->(List V->List V->Prop)->Prop|0,Z,s,k=>k Z s|n+1,Z,v::s,k=>iB n (v::Z) s k|_+1,_,[],_=>False
noncomputable def o7:List V->List V->(List V->Prop)->Prop|[],ad,k=>k ad|a::r,ad,k=>o7 r ad fun l=>k<|a::l
@[reducible]def lh(v:V)(k:Bool->Prop):Prop:=match v with
 |.aP b=>k b
 |_=>False
def eV(c:Bool)(a b:Prop):Prop:=@Bool.rec (fun O=>Prop) b a c
@[reducible]def Gk(U:Option Nat)(p:Prop):Prop:=match U with
 |none=>p
 |some _=>False
def Gl(K:c7):cT:=fun O l h=>K .bL ⟨l,h⟩
def Gm(K:c7):KF:=fun Z l h=>K Z ⟨l,h⟩
def wB(E:KE):du:=fun e l h=>E e ⟨l,h⟩
def rV(N:cT)(F:KF)(s:List V):c7:=fun Z J=>match J with|⟨l,h⟩=>match Z with|.bL=>N s l h|Z=>F Z l h
def rW(X:du):KE:=fun e J=>match J with|⟨l,h⟩=>X e l h
abbrev ht:=cT->KF->du->List V->cc->ar->Prop
def od(r:ht):c7->KE->St->Prop:=fun K E J=>match J with|⟨l,h⟩=>r (Gl K) (Gm K) (wB E) [] l h
def rX:KF:=fun O O O=>False
def Gn:du:=fun O O O=>False
def Go(K:KB):cT:=fun s l h=>da s fun v O=>lh v fun b=>K b ⟨l,h⟩
def wC(r:ht):KB->KE->St->Prop:=fun K E J=>match J with|⟨l,h⟩=>r (Go K) rX (wB E) [] l h
def ke(aO:aa)(tup:Bool)(v:V)(K:cc->ar->Prop)(l:cc)(h:ar):Prop:=match tup with|false=>(match aO with|[i]=>gU l i (some v) fun l=>K l h|_=>False)|true=>hg h (fun xs=>putK aO xs l fun l=>K l h) v
noncomputable def forR(body:c7->KE->St->Prop)(aO:aa)(tup:Bool)(bb:Option (Nat×dM)):List V->c7->St->KE->Prop|[],K,J,_=>K .bL J|v::ad,K,J,E=>ke aO tup v (fun l h=>body (fun Z J=>match Z with|.bL=>dy bb J.h/\forR body aO tup bb ad K J E|.dx=>K .bL J|.ay v=>K (.ay v) J) E ⟨l,h⟩) J.l J.h
@[irreducible]def li(Z:KB->KE->St->Prop)(body:c7->KE->St->Prop)(K:c7)(E:KE)(J:St):Prop:=
 ∀P:St->Prop,(∀J,Z (fun t J=>eV t (body (fun Y J=>match Y with|.bL=>P J|.dx=>K .bL J|.ay v=>K (.ay v) J) E J) (K .bL J)) E J->P J)->P J
def Gp(k:V->ar->Prop):cT:=fun s O h=>da s fun v O=>k v h
def h0(r:ht)(k:V->ar->Prop)(l:cc)(h:ar):Prop:=r (Gp k) rX Gn [] l h
noncomputable def h1(Y:ht)(X:Option ht)(bb:Option (Nat×dM))(l:cc):List V->List V->(List V->ar->Prop)->ar->Prop
 |[],Z,K,h=>K Z h
 |v::ad,Z,K,h=>match X with
  |none=>h0 Y (fun y h=>dy bb h/\Z.length<=16000000/\h1 Y X bb l ad (Z++[y]) K h) (some v::l) h
  |some c=>h0 c (fun t h=>lh t fun t=>eV t (h0 Y (fun y h=>dy bb h/\Z.length<=16000000/\h1 Y X bb l ad (Z++[y]) K h) (some v::l) h)
    (dy bb h/\h1 Y X bb l ad Z K h)) (some v::l) h
def wD(B:bS)(U:Option Nat)(c:hN)(o:V)(n:eu)(Z:List V)(K:a3 V)(E:a3 Nat)(h:ar):Prop:=match c with|.bi=>mn o n Z K h|.fn f self=>o7 self Z fun l=>B.call U f l K E h
def jd(N:cT)(s:List V)(l:cc):a3 V:=fun v h=>N (v::s) l h
def rY(N:cT)(s:List V)(l:cc)(h:ar):V->Prop:=fun v=>N (v::s) l h
def o8(N:cT)(s:List V)(l:cc)(h:ar):Bool->Prop:=fun b=>N (.aP b::s) l h
def rZ(X:du)(l:cc):a3 Nat:=fun e h=>X e l h
def Gq(B:bS)(U:Option Nat)(c:hN)(o:V)(m:eu)(n:Nat)(N:cT)(X:du):cT:=fun s l h=>iB n [] s fun ad s=>wD B U c o m ad (jd N s l) (rZ X l) h
def Gr(r:ht)(B:bS)(U:Option Nat)(o:V)(m:eu)(n:Nat)(N:cT)(F:KF)(X:du)(s:List V)(l:cc)(h:ar):hN->Prop:=fun c=>r (Gq B U c o m n N X) F X s l h
def Gs(Z:Operator)(x:V)(i:Nat)(N:cT):cT:=fun s l h=>da s fun y s=>mf Z x y fun v=>gU l i (some v) fun l=>N s l h
def Gu(r:ht)(B:bS)(Z:Operator)(o:V)(n:aa)(N:cT)(F:KF)(X:du)(s:List V)(l:cc)(h:ar):V->Prop:=fun x=>r (fun s l h=>da s fun y s=>mf Z x y fun v=>jZ B o n v (N s l) h) F X s l h
def Gv(r:ht)(aO:aa)(Z:Bool)(N:cT)(F:KF)(X:du)(s:List V)(l:cc)(h:ar):List V->Option (Nat×dM)->Prop:=fun xs bb=>forR (od r) aO Z bb xs (rV N F s) ⟨l,h⟩<|rW X
def Gw(aO:aa)(N:cT)(s:List V)(l:cc)(h:ar):List V->Prop:=fun xs=>putK aO xs l fun l=>N s l h
def r0(N:cT)(s:List V):cT:=fun O l h=>N s l h
def Gx(raised:Nat)(r:Option Nat->ht)(nm:Option Nat)(N:cT)(F:KF)(X:du)(s:List V):du:=fun a l h=>isExc h a raised/\match nm with|none=>r (some a) (r0 N s) F X [] l h|some i=>gU l i (some<|.Y a) fun l=>r (some a) (fun O l h=>∀o,gU l i o fun l=>N s l h) (fun Z l h=>∀o,gU l i o fun l=>F Z l h) (fun e l h=>∀o,gU l i o fun l=>X e l h) [] l h
def Gy(r:ht)(F:KF)(X:du):KF:=fun Z l h=>r (fun O l h=>F Z l h) F X [] l h
def Gz(r:Option Nat->ht)(X:du):du:=fun a l h=>mr h a fun h=>r (some a) (fun O l h=>t7 h a/\X a l h) rX X [] l h
mutual
noncomputable def run(B:bS):Option Nat->List Op->cT->KF->du->List V->cc->ar->Prop|_,[],N,_,_,s,l,h=>N s l h|U,o::r,N,F,X,s,l,h=>st B U o (run B U r N F X) F X s l h
noncomputable def st(B:bS):Option Nat->Op->cT->KF->du->List V->cc->ar->Prop
 |_,.k v,N,_,_,s,l,h=>N (v::s) l h
 |_,.x i,N,_,_,s,l,h=>hZ l i<|rY N s l h
 |_,.bin Z,N,_,_,s,l,h=>lg s fun x y s=>me Z x y (jd N s l) h
 |_,.neg,N,_,_,s,l,h=>da s fun v s=>cM v fun i=>N (.ae (-i)::s) l h
 |_,.hY,N,_,_,s,l,h=>da s fun v s=>kS h v<|o8 N s l h
 |_,.rT,N,_,_,s,l,h=>da s fun v s=>lh v fun b=>N (.aP (!b)::s) l h
 |U,.wr b,N,F,X,s,l,h=>da s fun v s=>kS h v fun t=>eV t (run B U b N F X s l h)<|N (v::s) l h
 |U,.wt b,N,F,X,s,l,h=>da s fun v s=>kS h v fun t=>eV t (N (v::s) l h)<|run B U b N F X s l h
 |U,.wu b,N,F,X,s,l,h=>da s fun v s=>lh v fun t=>eV t (run B U b N F X s l h)<|N (.aP false::s) l h
 |U,.ww b,N,F,X,s,l,h=>da s fun v s=>lh v fun t=>eV t (N (.aP true::s) l h)<|run B U b N F X s l h
 |_,.cmp Z,N,_,_,s,l,h=>lg s fun x y s=>kV h Z x y<|o8 N s l h
 |U,.fq Z T c,N,F,X,s,l,h=>lg s fun x y s=>kV h Z x y fun t=>eV t
   (run B U c (fun s l h=>lg s fun y z s=>kV h T y z<|o8 N s l h) F X (y::s) l h) (N (.aP false::s) l h)
 |U,.ite a b,N,F,X,s,l,h=>da s fun v s=>lh v fun t=>eV t (run B U a N F X s l h)<|run B U b N F X s l h
 |U,.call n,N,_,X,s,l,h=>iB n [] s fun ad s=>da s fun f s=>B.call U f ad (jd N s l) (rZ X l) h
 |U,.aZ m S n,N,F,X,s,l,h=>da s fun o s=>kW B h o m<|Gr (run B U S) B U o m n N F X s l h
 |_,.attr n,N,_,_,s,l,h=>da s fun o s=>ml B h o n<|rY N s l h
 |_,.idx,N,_,_,s,l,h=>lg s fun o i s=>jX B h o i<|rY N s l h
 |_,.aJ,N,_,_,s,l,h=>wA s fun o a b s=>ov o a b (jd N s l) h
 |_,.tup n,N,_,_,s,l,h=>iB n [] s fun ad s=>cE (.an ad) (jd N s l) h
 |_,.list n,N,_,_,s,l,h=>iB n [] s fun ad s=>cE (.ag ad) (jd N s l) h
 |_,.av aI,N,_,_,s,l,h=>iB aI.length [] s fun ad s=>∀e,cE (.av (aI.zip ad) e) (jd N s l) h
 |_,.gk,N,_,_,s,l,h=>∀e,cE (.b2 [] e) (jd N s l) h
 |_,.bad,_,_,_,_,_,_=>False
 |U,.et,N,_,_,s,l,h=>Gk U<|N s l h
 |_,.pop,N,_,_,s,l,h=>da s fun O s=>N s l h
 |_,.asg i,N,_,_,s,l,h=>da s fun v s=>gU l i (some v) fun l=>N s l h
 |_,.ev aO,N,_,_,s,l,h=>da s fun v s=>hg h (Gw aO N s l h) v
 |_,.wx n,N,_,_,s,l,h=>lg s fun v o s=>jZ B o n v (N s l) h
 |_,.wy,N,_,_,s,l,h=>wA s fun v o i s=>ox o i v (N s l) h
 |U,.c1 i Z e,N,F,X,s,l,h=>hZ l i fun x=>run B U e (Gs Z x i N) F X s l h
 |U,.gm n Z e,N,F,X,s,l,h=>da s fun o s=>ml B h o n<|Gu (run B U e) B Z o n N F X s l h
 |_,.ret,_,F,_,s,l,h=>da s fun v O=>F (.ay v) l h
 |_,.brk,_,F,_,_,l,h=>F .dx l h
 |U,.raise,_,_,X,s,l,h=>da s fun v O=>i1 (rZ X l) h U v
 |U,.dO t b,N,F,X,s,l,h=>li (wC<|run B U t) (od<|run B U b) (rV N F s) (rW X) ⟨l,h⟩
 |U,.b6 aO Y b,N,F,X,s,l,h=>da s fun v s=>mq h v<|Gv (run B U b) aO Y N F X s l h
 |_,.comp aO Y bI bX,N,_,_,s,l,h=>da s fun v s=>hh h (fun xs bb=>o6 bI l fun lc=>h1 (run B.down none bX) none bb lc xs [] (fun W h=>cE (.ag W) (fun v h=>ke aO Y v (fun l h=>N s l h) l h) h) h) v
 |_,.wz aO Y bI bX c,N,_,_,s,l,h=>da s fun v s=>hh h (fun xs bb=>o6 bI l fun lc=>h1 (run B.down none bX) (some<|run B.down none c) bb lc xs [] (fun W h=>cE (.ag W) (fun v h=>ke aO Y v (fun l h=>N s l h) l h) h) h) v
 |U,.f3 b nm R,N,F,X,s,l,h=>run B U b (r0 N s) F (Gx B.raised (fun U=>run B U R) nm N F X s) [] l h
 |U,.im b f,N,F,X,s,l,h=>run B U b (run B U f (r0 N s) F X) (Gy (run B U f) F X) (Gz (fun U=>run B U f) X) [] l h
end
mutual
noncomputable def bG:a6->List Op|.k v=>[.k v]|.x i=>[.x i]|.aM op a b=>bG a++bG b++[.bin op]|.cm a=>bG a++[.neg]|.eG a=>bG a++[.hY,.rT]|.cR a b=>bG a++[.wr<|bG b]|.dF a b=>bG a++[.wt<|bG b]|.aA op a b=>bG a++bG b++[.cmp op]|.fq op lb a b c=>bG a++bG b++[.fq op lb<|bG c]|.aB t a b=>ff t++[.ite (bG a)<|bG b]|.bW f as=>bG f++h2 as++[.call as.length]|.aZ o n as=>bG o++[.aZ n (h2 as) as.length]|.ce o n=>bG o++[.attr n]|.aE o i=>bG o++bG i++[.idx]|.aJ o lo aj=>bG o++bG lo++bG aj++[.aJ]|.an es=>h2 es++[.tup es.length]|.ag es=>h2 es++[.list es.length]|.av aI es=>if aI.length=es.length then h2 es++[.av aI]else[.bad]|.gk=>[.gk]
noncomputable def h2:List a6->List Op|[]=>[]|e::r=>bG e++h2 r
noncomputable def ff:a6->List Op|.eG a=>ff a++[.rT]|.cR a b=>ff a++[.wu<|ff b]|.dF a b=>ff a++[.ww<|ff b]|.aB t a b=>ff t++[.ite (ff a)<|ff b]|.aA op a b=>bG a++bG b++[.cmp op]|.fq op lb a b c=>bG a++bG b++[.fq op lb<|bG c]|.cm _=>[.bad]|.an _=>[.bad]|.ag _=>[.bad]|.av _ _=>[.bad]|.gk=>[.bad]|.k v=>[.k v,.hY]|.x i=>[.x i,.hY]|.aM op a b=>bG a++bG b++[.bin op,.hY]|.bW f as=>bG f++h2 as++[.call as.length,.hY]|.aZ o n as=>bG o++[.aZ n (h2 as) as.length,.hY]|.ce o n=>bG o++[.attr n,.hY]|.aE o i=>bG o++bG i++[.idx,.hY]|.aJ o lo aj=>bG o++bG lo++bG aj++[.aJ,.hY]
end
mutual
noncomputable def o9:cj->List Op|.bF e=>bG e++[.pop]|.aG i e=>bG e++[.asg i]|.ev aO e=>.et::bG e++[.ev aO]|.cn o n e=>bG e++bG o++[.wx n]|.c0 o i e=>bG e++bG o++bG i++[.wy]|.c1 i op e=>[.c1 i op<|bG e]|.gm o n op e=>bG o++[.gm n op<|bG e]|.ay e=>bG e++[.ret]|.ca e=>bG e++[.raise]|.aB t b o=>ff t++[.ite (cf b)<|cf o]|.dO t b=>[.dO (ff t)<|cf b]|.b6 aO h3 it b=>.et::bG it++[.b6 aO h3<|cf b]|.brk=>[.brk]|.pass=>[]|.f3 b nm h=>[.f3 (cf b) nm<|cf h]|.im b f=>[.im (cf b)<|cf f]|.f4 aO h3 bI it bX none=>.et::bG it++[.comp aO h3 bI<|bG bX]|.f4 aO h3 bI it bX (some c)=>.et::bG it++[.wz aO h3 bI (bG bX)<|ff c]
noncomputable def cf:List cj->List Op|[]=>[]|s::r=>o9 s++cf r
end
theorem je(B):∀(a b:List Op)(U:Option Nat)(N:cT)(F:KF)(X:du),run B U (a++b) N F X=run B U a (run B U b N F X) F X
 |[],b,U,N,F,X=>by funext s l h;rfl
 |o::a,b,U,N,F,X=>by funext s l h;show st B U o (run B U (a++b) N F X) F X s l h=st B U o (run B U a (run B U b N F X) F X) F X s l h;rw[je B a b]
noncomputable def r1:cc->(cc->Prop)->Prop|[],k=>k []|a::l,k=>r1 l fun r=>k<|a::r
noncomputable def r2:List V->cc->(cc->Prop)->Prop
 |[],l,k=>r1 l k
 |a::Z,_::l,k=>r2 Z l fun l=>k<|some a::l
 |_::_,[],_=>False
def wF(n Z dZ:Nat)(p:Prop):Prop:=match decide (Z<=dZ)&&decide (dZ-Z<=n)&&decide (n<=dZ)with|true=>p|false=>False
noncomputable def aR.r3(f:aR):cc:=List.replicate (f.dZ-f.dflt.length) none++(f.dflt.map some++List.replicate (f.kX-f.dZ) none)
def jf(K:a3 V):cT:=fun O O h=>K .a5 h
def jg(K:a3 V):KF:=fun Z O h=>match Z with|.ay v=>K v h|_=>K .a5 h
def jh(E:a3 Nat):du:=fun a O h=>E a h
def aR.go(B:bS)(U:Option Nat)(f:aR)(Z:List V)(K:a3 V)(E:a3 Nat)(h:ar):Prop:=
 wF Z.length f.dflt.length f.dZ (r2 Z f.r3 fun l=>run B U (cf f.body) (jf K) (jg K) (jh E) [] l h)
noncomputable def pa:List (Nat×List aa):=[(945,[kB,nR,nS,lX,kC,lW,nT,[102,114,97,109,101],p0,jE,jy,lT]),(697,[kG,fH,[116,114,97,99,101,115],[105,115,95,98,117,115,121],pZ,nQ]),(84,[jC,fH,lS,[108,101,118,101,108],[114,101,116],jA,nN,kE,[101,120,116,114,97]])]
def lj(C:Nat)(n:aa):Bool:=match pa.lookup C with|some l=>decide (n∈l)|none=>false
noncomputable def mY:List (aa×Nat):=[([104,97,115],850),([112,108,97,99,101],857),([114,101,97,100,95,118,97,114],864),([119,114,105,116,101,95,118,97,114],871),(fl,878),(dK,885),(kF,892),([112,117,116],914),(e5,921),([97,100,100],928),([98,101,103,105,110],942),([116,111,111,108],723),([115,112,101,110,100],730),(kH,744),([99,97,108,108],758)]
def mZ(C:Nat)(n:aa):Option Nat:=if C=945 then mY.lookup n else none
noncomputable def lk(o:V)(n:aa):Option V:=if n=kx then(if o=.cg "Exception"then some (.b5 "Exception.__init__")else if o=.Y 782 then some (.Y 716)else none)else none
abbrev eW:=Nat->Option Nat->V->List V->a3 V->a3 Nat->ar->Prop
def eh(C:eW)(ax:Nat->Option (List V))(n:Nat):bS where
 call:=C n
 inner:=C (n+1)
 aZ:=mZ
 e9:=lk
 raised:=84
 attr:=lj
 ec:=lj
 ax:=ax
structure aQ(C:eW)(ax:Nat->Option (List V)):Prop where
 fn:∀{a:Nat}{f:aR},Fn a=some f->∀{n:Nat},n<=90->∀{U:Option Nat}{ad:List V}{P:a3 V}{E:a3 Nat}{h:ar},aR.go (eh C ax<|n+1) U f ad P E h->C n U (.Y a) ad P E h
 mkVar:∀{n:Nat},n<=90->∀{U:Option Nat}{P:a3 V}{E:a3 Nat}{h:ar},(∀d a,h d=none->h a=none->d≠a->aR.go (eh C ax<|n+1) U rB [.Y a] (fun v m0=>v=.a5/\P (.Y a) m0) E ((h.set d<|.bK []).set a<|.dt 697 d))->C n U (.Y 697) [] P E h
 wG:∀{n:Nat},n<=90->∀{U:Option Nat}{P:a3 V}{E:a3 Nat}{h:ar},(∀d a,h d=none->h a=none->d≠a->aR.go (eh C ax<|n+1) U rC [.Y a] (fun v m0=>v=.a5/\P (.Y a) m0) E ((h.set d<|.bK []).set a<|.dt 945 d))->C n U (.Y 945) [] P E h
 wH:∀{n:Nat},n<=90->∀{U:Option Nat}{ad:List V}{P:a3 V}{E:a3 Nat}{h:ar},ad.length<=100->(∀a,h a=none->aR.go (eh C ax<|n+1) U rA (.Y a::ad) (fun v m0=>v=.a5/\P (.Y a) m0) E (h.set a<|.dY 84))->C n U (.Y 84) ad P E h
 wI:∀{n:Nat}{U:Option Nat}{P:a3 V}{E:a3 Nat}{h:ar}{a:Nat}{v:V},h a=some (.dY 84)->P .a5 h->C n U (.b5 "Exception.__init__") [.Y a,v] P E h
 len_str:∀{n:Nat}{U:Option Nat}{P:a3 V}{E:a3 Nat}{h:ar}{x:aa},x.length<=16777216->P (.ae x.length) h->C n U (.b5 "len") [.S x] P E h
 len_list:∀{n:Nat}{U:Option Nat}{P:a3 V}{E:a3 Nat}{h:ar}{a:Nat}{x:List V},h a=some (.ag x)->x.length<=16777216->P (.ae x.length) h->C n U (.b5 "len") [.Y a] P E h
 GA:∀{n:Nat}{U:Option Nat}{P:a3 V}{E:a3 Nat}{h:ar}{a e:Nat}{x:List (aa×V)},h a=some (.av x e)->x.length<=16777216->P (.ae x.length) h->C n U (.b5 "len") [.Y a] P E h
 wJ:∀{n:Nat}{U:Option Nat}{P:a3 V}{E:a3 Nat}{h:ar}{a:Nat}{x:List V},ax a=some x->x.length<=16777216->P (.ae x.length) h->C n U (.b5 "len") [.Y a] P E h
 ord:∀{n:Nat}{U:Option Nat}{P:a3 V}{E:a3 Nat}{h:ar}{c:Nat},P (.ae c) h->C n U (.b5 "ord") [.S [c]] P E h
 chr:∀{n:Nat}{U:Option Nat}{P:a3 V}{E:a3 Nat}{h:ar}{i:Int},0<=i->i<=0x10FFFF->P (.S [i.toNat]) h->C n U (.b5 "chr") [.ae i] P E h
 ll:∀{n:Nat}{U:Option Nat}{P:a3 V}{E:a3 Nat}{h:ar}{i:Int},i.natAbs.log2<1920->P (.S<|(toString i:Str).cps.toList) h->C n U (.cg "str") [.ae i] P E h
 iC:∀{n:Nat}{U:Option Nat}{P:a3 V}{E:a3 Nat}{h:ar}{i:Int},-(2^60)<i->i<2^60->(∀a,h a=none->P (.Y a) (h.set a<|.range 0 i))->C n U (.cg "range") [.ae i] P E h
 eF:∀{n:Nat}{U:Option Nat}{P:a3 V}{E:a3 Nat}{h:ar}{i j c:Int},c≠0->c.natAbs<1073741824->-(2^60)<i->i<2^60->-(2^60)<j->j<2^60->(∀a,h a=none->P (.Y a) (h.set a<|.eF i j c))->C n U (.cg "range") [.ae i,.ae j,.ae c] P E h
 wK:∀{n:Nat}{U:Option Nat}{P:a3 V}{E:a3 Nat}{h:ar}{a:Nat}{x:List V},h a=some (.an x)->P (.aP true) h->C n U (.b5 "isinstance") [.Y a,.cg "tuple"] P E h
 wL:∀{n:Nat}{U:Option Nat}{P:a3 V}{E:a3 Nat}{h:ar}{x:aa},P (.aP false) h->C n U (.b5 "isinstance") [.S x,.Y 105] P E h
 wM:∀{n:Nat}{U:Option Nat}{P:a3 V}{E:a3 Nat}{h:ar}{x:aa},P (.aP false) h->C n U (.b5 "isinstance") [.S x,.Y 126] P E h
theorem ar.at(h:ar)(a)(o):(h.set a o) a=some o:=by exact(if_pos rfl)
theorem ar.ne(h:ar){a b}(o)(Z:b≠a):(h.set a o) b=h b:=by exact(if_neg Z)
theorem aD{h:ar}{a o}:(h.set a o) a=some o:=ar.at ..
theorem bl{h:ar}{a b o}(q:b≠a):(h.set a o) b=h b:=ar.ne _ _ q
def Ext(h Z:ar):Prop:=∀a o,h a=some o->Z a=some o
theorem Ext.rfl{h}:Ext h h:=fun O O e=>e
theorem Ext.trans{h Y Z}(x:Ext h Y)(y:Ext Y Z):Ext h Z:=fun a o e=>y a o<|x a o e
theorem aw{h a o}(Y:h a=none):Ext h (h.set a o):=fun b p e=>by exact Z (bl (fun q=>by subst q;rw[Y]at e;trivial)) e
theorem Ext.fresh{h Z}(x:Ext h Z){a}(Y:Z a=none):h a=none:=by
 rcases q:h a with _|o
 .exact _root_.rfl
 .rw[x a o q]at Y;trivial
section
variable{body:c7->KE->St->Prop}{aO:aa}{tup:Bool}{bb:Option (Nat×dM)}{K:c7}{E:KE}
theorem dI(I:List V->St->Prop)(X:∀v ad,∀Y:c7,(∀Z,dy bb Z.h->I ad Z->Y .bL Z)->(∀Z,K .bL Z->Y .dx Z)->(∀u Z,K (.ay u) Z->Y (.ay u) Z)->∀J,I (v::ad) J->ke aO tup v (fun l h=>body Y E ⟨l,h⟩) J.l J.h)(W:∀J,I [] J->K .bL J):∀{ad:List V}{J:St},I ad J->forR body aO tup bb ad K J E:=by
 intro ad;induction ad with
 |nil=>intro J h;exact W J h
 |cons v ad ab=>intro J h;refine X v ad _ ?_ ?_ ?_ J h;exact fun Z s U=>⟨s,ab U⟩;exact fun O k=>k;exact fun O O k=>k
theorem GB{Y}{aq:Type}(m:aq->Nat)(I:aq->St->Prop)(X:∀(P:St->Prop) a J,I a J->(∀W Z,m W<m a->I W Z->P Z)->Y (fun t J=>eV t (body (fun Q J=>match Q with
   |.bL=>P J
   |.dx=>K .bL J
   |.ay v=>K (.ay v) J) E J) (K .bL J)) E J) {a J} (h:I a J):li Y body K E J:=by
 unfold li;intro P T;have S:∀k a J,m a<=k->I a J->P J:=by
  intro k;induction k with
  |zero=>intro a J V aj;exact T J<|X P a J aj fun W Z U O=>absurd U<|Nat.not_lt_of_le<|bp V<|zero_le _
  |succ k ab=>intro a J V aj;exact T J (X P a J aj fun W Z U R=>ab W Z (by exact((aT 0x4204604884020404108102) V U)) R)
 exact S (m a) a J (Nat.le_refl _) h
theorem dv{aq:Type}{s r:List aq}{c i}(h:s.drop i=c::r):s[i]?=some c/\i<s.length/\s.drop (i+1)=r:=by
 have Z:i<s.length:=by
  rcases Nat.lt_or_ge i s.length with q|q
  .exact q
  .rw[drop_of_length_le q]at h;trivial
 rw[drop_eq_getElem_cons Z]at h;have:=List.cons.inj h;exact⟨by exact(List.getElem?_eq_getElem Z).trans<|a4 this.1,Z,this.2⟩
theorem gV{aq}{s:List aq}{i:Nat}:c9 (i:Int) s=s[i]?:=by exact(if_neg<|by exact(aF 0x8081a0))
theorem eX{aq}{s r:List aq}{c i}(h:s.drop i=c::r):c9 (i:Int) s=some c:=by exact gV.trans<|(dv h).1
end
end
section
open PySem PySem.Calls PyProof.Rows PySem.W
open Hq (K0)
def fe(p:Params)(ax:Nat->Option (List V)):Look:=⟨gS<|K0 p,84,ax,lj,lj,mZ,lk⟩
noncomputable def GC:aa:=kx
theorem GD(p):(pa.all fun q=>q.2.all fun m=>if q.1=84 then rI (K0 p) q.1 m else rG (K0 p) q.1 m)=true:=by kernel_rfl
theorem wN(p):(pa.all fun q=>q.2.all fun m=>mV (K0 p) q.1 m)=true:=by kernel_rfl
theorem GE(p):(mY.all fun q=>rH (K0 p) 945 q.1 q.2)=true:=by kernel_rfl
theorem GF(p):rK (K0 p) 782 GC 716=true:=by kernel_rfl
set_option tactic.hygienic true in
theorem r4{C n}(h:lj C n=true):∃q∈pa,q.1=C/\n∈q.2:=by
 unfold lj at h;split at h
 .rename_i l Z;have:∀(xs:List (Nat×List aa)),xs.lookup C=some l->(C,l)∈xs:=by
   intro xs;induction xs with
   |nil=>intro h;cases h
   |cons y r ab=>obtain⟨a,b⟩:=y;intro h;rw[lookup_cons]at h;split at h;rename_i e;cases h;rw[beq_iff_eq]at e;rw[e];exact .head _;exact .tail _<|ab h
  exact⟨_,this _ Z,rfl,by simpa using h⟩
 .cases h
theorem GG{C n f}(h:mZ C n=some f):C=945/\(n,f)∈mY:=by
 unfold mZ at h;split at h
 .rename_i e;refine⟨e,?_⟩;have:∀(xs:List (aa×Nat)),xs.lookup n=some f->(n,f)∈xs:=by
   intro xs;induction xs with
   |nil=>intro h;cases h
   |cons y r ab=>obtain⟨a,b⟩:=y;intro h;rw[lookup_cons]at h;split at h;rename_i e;cases h;rw[beq_iff_eq]at e;rw[e];exact .head _;exact .tail _<|ab h
  exact this _ h
 .cases h
theorem GH(p){ax B}(V:∀a xs,ax a=some xs->∃items,B.h₀.IsList a items/\bo items.toList=xs)(U:dl B)(X:(K0 p).In B.h₀)(T:∀x v,gS (K0 p) x=some v->k3 B x v)(S:mW (K0 p) 84)(R:gS (K0 p) (Str.ofString "Raised")=some (.Y 84)):gw B (fe p ax)where
 b:=U
 glob:=T
 vV:=R
 mM:=we X S
 ax:=fun n=>⟨V⟩
 attr:=fun C m h=>by
  obtain⟨q,W,rfl,Z⟩:=r4 h;have:=List.all_eq_true.mp (List.all_eq_true.mp (GD p) q W) m Z;rcases Decidable.em (q.1=84)with e|e
  .rw[if_pos e]at this;exact@FS _ _ X _ _ this
  .rw[if_neg e]at this;exact@FK _ _ X _ _ this
 ec:=fun C m h=>by obtain⟨q,W,rfl,Z⟩:=r4 h;exact FY X (List.all_eq_true.mp (List.all_eq_true.mp (wN p) q W) m Z)
 k4:=fun C m h=>by obtain⟨q,W,rfl,Z⟩:=r4 h;exact F0 X (List.all_eq_true.mp (List.all_eq_true.mp (wN p) q W) m Z)
 aZ:=fun C m f h=>by obtain⟨rfl,W⟩:=GG h;exact FL X (List.all_eq_true.mp (GE p) _ W)
 e9:=fun o m f h=>by
  have Z:lk o m=some f:=h;clear h;unfold lk at Z;split at Z
  .rename_i e;subst e;split at Z;rename_i e;cases Z;rw[e];exact F7 X
   .split at Z;rename_i e;cases Z;rw[e];exact F8 X<|GF p
    .cases Z
  .cases Z
theorem r5(p):mW (K0 p) 84:=⟨"Raised","Raised",83,[.type "Exception"],true,[],[],false,none,none,some<|.ref 66,none,some<|.str "Raised" 257,some<|.str "Raised" 265,some<|.bool true,by kernel_rfl⟩
theorem GI(p):gS (K0 p) (Str.ofString "Raised")=some (.Y 84):=by kernel_rfl
end
section
open PySem
def r6(c:Option Nat->V->List V->a3 V->a3 Nat->ar->Prop):Prop:=∀{U:Option Nat}{f:V}{ad:List V}{P fy:a3 V}{E Z:a3 Nat}{h:ar},(∀v h,P v h->fy v h)->(∀e h,E e h->Z e h)->c U f ad P E h->c U f ad fy Z h
structure ji(B:bS):Prop where
 call:r6 B.call
 inner:r6 B.inner
theorem ji.down{B}(m:ji B):ji B.down:=⟨m.inner,fun O O k=>k⟩
section
variable{h:ar}{K cy:Bool->Prop}{P fy:a3 V}{R bC:V->Prop}
theorem hu(m:∀b,K b->cy b){v}(k:kS h v K):kS h v cy:=by
 cases v with
 |Y a=>
  cases(show iZ h a K from k)with
  |list a b k=>exact iZ.list a b<|m _ k
  |av a b k=>exact iZ.av a b<|m _ k
  |b2 a b k=>exact iZ.b2 a b<|m _ k
 |S s=>exact⟨k.1,m _ k.2⟩
 |a5|aP|ae=>exact m _ k
 |cg|b5|odd=>exact k
theorem jj(m:∀v h,P v h->fy v h){o}(k:cE o P h):cE o fy h:=fun a Z=>m _ _<|k a Z
theorem m1{v p q}(m:∀i,p i->q i)(k:cM v p):cM v q:=by cases v<;>first|exact m _ k|exact k.elim
theorem r7{v p q}(m:∀i,p i->q i)(k:hf v p):hf v q:=by cases v<;>first|exact m _ k|exact k.elim
theorem wO{v p q}(m:∀i,p i->q i)(k:i0 v p):i0 v q:=by cases v<;>first|exact m _ k|exact k.elim
theorem wP{x y i Z s X r W}(a:∀c,i c->Z c)(b:∀c,s c->X c)(c:∀x y,r x y->W x y)(k:kT x y i s r):kT x y Z X W:=by
 cases x with
 |ae=>exact m1 (v:=y) (fun O=>a _) k
 |S=>exact r7 (v:=y) (fun O k=>⟨k.1,b _ k.2⟩) k
 |Y=>exact wO (v:=y) (c _) k
 |_=>exact k.elim
theorem iD{x y}{p q:Int->Int->Prop}(m:∀i j,p i j->q i j)(k:cM x fun a=>cM y<|p a):cM x fun a=>cM y (q a):=m1 (fun O k=>m1 (m _) k) k
theorem wQ(m:∀v h,P v h->fy v h){Z x y}(k:me Z x y P h):me Z x y fy h:=by
 cases Z with
 |Add=>exact wP (x:=x) (y:=y) (fun O=>m _ _) (fun O=>m _ _) (fun O O k=>by cases k with|mk a b c k=>exact .mk a b c<|jj m k) k
 |Sub=>exact iD (x:=x) (y:=y) (fun O O=>m _ _) k
 |Mult=>exact iD (x:=x) (y:=y) (fun O O k=>⟨k.1,m _ _ k.2⟩) k
 |FloorDiv=>exact iD (x:=x) (y:=y) (fun O O k=>⟨k.1,k.2.1,m _ _ k.2.2⟩) k
 |Mod=>exact iD (x:=x) (y:=y) (fun O O k=>⟨k.1,m _ _ k.2⟩) k
 |Pow=>exact iD (x:=x) (y:=y) (fun O O k=>⟨k.1,k.2.1,k.2.2.1,m _ _ k.2.2.2⟩) k
 |_=>exact k.elim
theorem wR(m:∀v,R v->bC v){Z x y}(k:mf Z x y R):mf Z x y bC:=by
 cases Z with
 |Add=>exact wP (x:=x) (y:=y) (fun O=>m _) (fun O=>m _) (fun O O k=>k) k
 |Sub=>exact iD (x:=x) (y:=y) (fun O O=>m _) k
 |_=>exact k.elim
theorem wU(m:∀b,K b->cy b){x y}(k:mg h x y K):mg h x y cy:=by
 cases k with
 |av a k=>exact .av a<|m _ k
 |b2 a k=>exact .b2 a<|m _ k
 |list a b c k=>exact .list a b c<|m _ k
 |tup a b c k=>exact .tup a b c<|m _ k
theorem wV(m:∀b,K b->cy b){x y}(k:kU h x y K):kU h x y cy:=by
 cases x with
 |ae=>exact m1 (v:=y) (fun O=>m _) k
 |S=>exact r7 (v:=y) (fun O=>m _) k
 |Y=>exact wO (v:=y) (fun O k=>k.elim fun d e z=>⟨d,e,z.1,z.2,z.3,m _ z.4⟩) k
 |_=>exact k.elim
theorem lm(m:∀b,K b->cy b){Z x y}(k:kV h Z x y K):kV h Z x y cy:=by
 have Y:∀{p q:Prop},(p->q)->mh y p->mh y q:=fun f k=>by cases y<;>first|exact f k|exact k.elim
 cases Z with
 |Eq=>exact wV m k
 |NotEq=>exact wV (fun b=>m _) k
 |Lt=>exact iD (x:=x) (y:=y) (fun O O=>m _) k
 |LtE=>
  cases x with
  |ae=>exact m1 (v:=y) (fun O=>m _) k
  |S=>exact r7 (v:=y) (fun O=>m _) k
  |_=>exact k.elim
 |Gt=>exact iD (x:=x) (y:=y) (fun O O=>m _) k
 |GtE=>exact iD (x:=x) (y:=y) (fun O O=>m _) k
 |In=>exact wU m k
 |NotIn=>exact wU (fun b=>m _) k
 |Is=>exact Y (m _) k
 |IsNot=>exact Y (m _) k
theorem wW{B}(m:∀v,R v->bC v){o i}(k:jX B h o i R):jX B h o i bC:=by
 cases k with
 |str a b c k=>exact .str a b c<|m _ k
 |list a b c d k=>exact .list a b c d<|m _ k
 |tup a b c d k=>exact .tup a b c d<|m _ k
 |av a b k=>exact .av a b<|m _ k
 |ax a b c d k=>exact .ax a b c d<|m _ k
theorem wX(m:∀v h,P v h->fy v h){o a b}(k:ov o a b P h):ov o a b fy h:=by
 cases k with
 |str a b c d k=>exact .str a b c d<|m _ _ k
 |list a b c d e k=>exact .list a b c d e<|jj m k
theorem r8{B}(m:∀v,R v->bC v){o n}(k:ml B h o n R):ml B h o n bC:=by
 cases k with
 |inst a b c d e k=>exact .inst a b c d e<|m _ k
 |exc a b c d e k=>exact .exc a b c d e<|m _ k
theorem wY{B Q Z}(m:∀h,Q h->Z h){o v n}(k:jZ B o n v Q h):jZ B o n v Z h:=by
 cases k with
 |inst a b c d k=>exact .inst a b c d<|m _ k
 |exc a b c d k=>exact .exc a b c d<|m _ k
 |dY a b k=>exact .dY a b fun d U=>m _<|k d U
theorem GJ{Q Z}(m:∀h,Q h->Z h){o i v}(k:ox o i v Q h):ox o i v Z h:=by
 cases k with
 |av a b k=>exact .av a b fun e=>m _<|k e
 |b2 a b k=>exact .b2 a b fun e=>m _<|k e
theorem wZ{B Q Z}(m:∀c,Q c->Z c){o n}(k:kW B h o n Q):kW B h o n Z:=by
 cases k with
 |str a k=>exact .str a<|m _ k
 |cls a k=>exact .cls a<|m _ k
 |app a k=>exact .app a<|m _ k
 |get a k=>exact .get a<|m _ k
 |pop a k=>exact .pop a<|m _ k
 |own a b c d e k=>exact .own a b c d e<|m _ k
 |typ a k=>exact .typ a<|m _ k
theorem GK(m:∀v h,P v h->fy v h){o n Z}(k:mn o n Z P h):mn o n Z fy h:=by
 cases k with
 |pre k=>exact .pre<|m _ _ k
 |oy k=>exact .oy<|m _ _ k
 |find k=>exact .find<|m _ _ k
 |oz a b k=>exact .oz a b<|m _ _ k
 |low k=>exact .low<|m _ _ k
 |join a b c k=>exact .join a b c<|m _ _ k
 |app a b k=>exact .app a b<|m _ _ k
 |get a k=>exact .get a<|m _ _ k
 |@pop _ _ es s _ a b k=>
  refine .pop a b ?_;rcases q:aH s es with _|u
  .rw[q]at k;exact m _ _ k
  .exact fun e=>m _ _<|(q▸k) e
 |da a b c k=>exact .da a b c fun e=>m _ _<|k e
theorem GL{U X Y}(m:∀a h,X a h->Y a h){v}(k:i1 X h U v):i1 Y h U v:=by
 cases k with
 |mk Z k=>
  cases k with
  |none k=>exact .mk Z<|.none<|m _ _ k
  |same k=>exact .mk Z<|.same<|m _ _ k
  |new V W T S k=>exact .mk Z<|.new V W T S<|m _ _ k
theorem GM{Q X}(m:∀xs bb,Q xs bb->X xs bb){v}(k:mq h v Q):mq h v X:=by
 cases v with
 |S s=>exact m _ _ k
 |Y a=>
  cases(show fP h a Q from k)with
  |list Z k=>exact fP.list Z<|m _ _ k
  |tup Z k=>exact fP.tup Z<|m _ _ k
  |av Z k=>exact fP.av Z<|m _ _ k
  |b2 Z k=>exact fP.b2 Z<|m _ _ k
  |range Z k=>exact fP.range Z<|m _ _ k
  |eF Z k=>exact fP.eF Z<|m _ _ k
 |_=>exact k.elim
theorem w0{Q Y}(m:∀xs bb,Q xs bb->Y xs bb){v}(k:hh h Q v):hh h Y v:=by
 cases k with
 |list Z k=>exact .list Z<|m _ _ k
 |range Z k=>exact .range Z<|m _ _ k
theorem GN{Q Y}(m:∀xs,Q xs->Y xs){v}(k:hg h Q v):hg h Y v:=by
 cases k with
 |list Z k=>exact .list Z<|m _ k
 |tup Z k=>exact .tup Z<|m _ k
theorem GO{a Q Z}(m:∀h,Q h->Z h)(k:mr h a Q):mr h a Z:=by
 cases k with
 |mk Y k=>exact .mk Y<|m _ k
theorem GP{Q a b}:o7 a b Q=Q (a++b):=by
 induction a generalizing Q with
 |nil=>rfl
 |cons x a ab=>exact ab (Q:=fun l=>Q<|x::l)
theorem w1{B}(bf:ji B){U c o n Z E Y X}{l:cc}(m:∀v h,P v h->Y v ⟨l,h⟩)(e:∀a h,E a h->X a ⟨l,h⟩)(k:wD B U c o n Z P E h):qF B U c o n Z Y X ⟨l,h⟩:=by
 cases c with
 |bi=>exact GK m k
 |fn f self=>have k:o7 self Z (fun l=>B.call U f l P E h):=k;rw[GP]at k;exact bf.call m e k
set_option tactic.hygienic true
variable{B:bS}{U:Option Nat}{N:cT}{F:KF}{X:du}{s:List V}{l:cc}
theorem ap{a b}(k:run B U (a++b) N F X s l h):run B U a (run B U b N F X) F X s l h:=by rw[je]at k;exact k
theorem hv{a b c}(k:run B U (a++b++c) N F X s l h):run B U a (run B U b (run B U c N F X) F X) F X s l h:=by rw[je,je]at k;exact k
theorem r9{a b c d}(k:run B U (a++b++c++d) N F X s l h):run B U a (run B U b (run B U c (run B U d N F X) F X) F X) F X s l h:=by rw[je,je,je]at k;exact k
theorem sa{Q l}:∀{i:Nat},hZ l i Q->∃v,l[i]?=some (some v)/\Q v:=by
 induction l with
 |nil=>exact fun{i} k=>k.elim
 |cons a l ab=>
  intro i k;cases i with
  |zero=>
   cases a with
   |none=>exact k.elim
   |some v=>exact⟨v,rfl,k⟩
  |succ i=>cases a<;>exact ab k
theorem iE{Q v l i}(k:gU l i v Q):Q (l.set i v):=by
 induction l generalizing i Q with
 |nil=>exact k.elim
 |cons a l ab=>
  cases i with
  |zero=>exact k
  |succ i=>exact ab (Q:=fun l=>Q<|a::l) k
theorem w2{Q}:∀(us Z:List V),iB us.length Z (us++s) Q=Q (us.reverse++Z) s
 |[],Z=>rfl
 |u::us,Z=>by show iB us.length (u::Z) (us++s) Q=_;rw[w2 us];simp
theorem kf{Q ad n}(Z:ad.length=n)(k:iB n [] (ad.reverse++s) Q):Q ad s:=by have:=w2 (s:=s) (Q:=Q) ad.reverse [];rw[length_reverse,Z,reverse_reverse,append_nil]at this;rw[this]at k;exact k
theorem hw{c}{a b p q:Prop}(Z:a->p)(Y:b->q)(k:eV c a b):if c then p else q:=by cases c;exact Y k;exact Z k
section
variable{B:bS}(bf:ji B){U:Option Nat}
include bf
mutual
theorem bN:∀(m:a6){N:cT}{F:KF}{X:du}{s:List V}{l:cc}{h:ar}{K:fM}{E:KE},(∀v h,N (v::s) l h->K v ⟨l,h⟩)->(∀e h,X e l h->E e ⟨l,h⟩)->run B U (bG m) N F X s l h->wE B U m K E ⟨l,h⟩
 |.k v=>fun n O k=>n _ _ k
 |.x i=>fun n O k=>by refine(sa k).elim fun v Y=>?_;exact qG Y.1<|n _ _ Y.2
 |.aM op a b=>fun n x k=>bN a (fun O O k=>bN b (fun O O k=>wQ n k) x k) x<|hv k
 |.cm a=>fun n x k=>bN a (fun v O k=>by cases v<;>first|exact k.elim|exact n _ _ k) x<|ap k
 |.eG a=>fun n x k=>bN a (fun O O k=>hu (fun O=>n _ _) k) x<|ap k
 |.cR a b=>fun n x k=>bN a (fun O O k=>hu (fun O=>hw (bN b n x)<|n _ _) k) x<|ap k
 |.dF a b=>fun n x k=>bN a (fun O O k=>hu (fun O=>hw (n _ _)<|bN b n x) k) x<|ap k
 |.aA op a b=>fun n x k=>bN a (fun O O k=>bN b (fun O O k=>lm (fun O=>n _ _) k) x k) x<|hv k
 |.fq op lb a b c=>fun n x k=>bN a (fun O O k=>bN b (fun O O k=>lm (fun O=>hw (bN c (fun O O k=>lm (fun O=>n _ _) k) x)<|n _ _) k) x k) x<|hv k
 |.aB t a b=>fun n x k=>gW t (fun O O k=>hw (bN a n x) (bN b n x) k) x<|ap k
 |.bW f as=>fun n x k=>bN f (fun O O k=>jk as (fun ad O Z k=>by have k:=kf Z k;exact bf.call n x k) x k) x (hv k)
 |.aZ o nm as=>fun n x k=>bN o (fun O O k=>wZ (fun c k=>jk as (fun ad O Z k=>w1 bf n x<|kf Z k) x k) k) x<|ap k
 |.ce o nm=>fun n x k=>bN o (fun O O k=>r8 (fun O=>n _ _) k) x<|ap k
 |.aE o i=>fun n x k=>bN o (fun O O k=>bN i (fun O O k=>wW (fun O=>n _ _) k) x k) x<|hv k
 |.aJ o a b=>fun n x k=>bN o (fun O O k=>bN a (fun O O k=>bN b (fun O O k=>wX n k) x k) x k) x<|r9 k
 |.an es=>fun n x k=>jk es (fun ad O Z k=>jj n<|kf (s:=_) Z k) x<|ap k
 |.ag es=>fun n x k=>jk es (fun ad O Z k=>jj n<|kf (s:=_) Z k) x<|ap k
 |.av aI es=>fun n x k=>by have k:run B U (if aI.length=es.length then h2 es++[.av aI]else[.bad]) _ _ _ _ _ _:=k;split at k;rename_i q;exact jk es (fun ad O Z k=>by have k:=kf (Z.trans q.symm) k;exact fun e=>jj n<|k e) x (ap k);exact k.elim
 |.gk=>fun n O k=>fun e=>jj n<|k e
theorem jk:∀(m:List a6){N:cT}{F:KF}{X:du}{s:List V}{l:cc}{h:ar}{K:ot}{E:KE},(∀ad h,ad.length=m.length->N (ad.reverse++s) l h->K ad ⟨l,h⟩)->(∀e h,X e l h->E e ⟨l,h⟩)->run B U (h2 m) N F X s l h->wEs B U m K E ⟨l,h⟩
 |[]=>fun n O k=>n [] _ rfl k
 |e::r=>fun n x k=>bN e (fun v O k=>jk r (fun ad O Z k=>n (v::ad) _ (bn Nat.succ Z)<|by rw[reverse_cons,append_assoc];exact k) x k) x<|ap k
theorem gW:∀(m:a6){N:cT}{F:KF}{X:du}{s:List V}{l:cc}{h:ar}{K:KB}{E:KE},(∀b h,N (.aP b::s) l h->K b ⟨l,h⟩)->(∀e h,X e l h->E e ⟨l,h⟩)->run B U (ff m) N F X s l h->wT B U m K E ⟨l,h⟩
 |.eG a=>fun n x k=>gW a (fun O O k=>n _ _ k) x<|ap k
 |.cR a b=>fun n x k=>gW a (fun O O k=>hw (gW b n x) (n _ _) k) x<|ap k
 |.dF a b=>fun n x k=>gW a (fun O O k=>hw (n _ _) (gW b n x) k) x<|ap k
 |.aB t a b=>fun n x k=>gW t (fun O O k=>hw (gW a n x) (gW b n x) k) x<|ap k
 |.aA op a b=>fun n x k=>bN a (fun O O k=>bN b (fun O O k=>lm (fun O=>n _ _) k) x k) x<|hv k
 |.fq op lb a b c=>fun n x k=>bN a (fun O O k=>bN b (fun O O k=>lm (fun O=>hw (bN c (fun O O k=>lm (fun O=>n _ _) k) x)<|n _ _) k) x k) x<|hv k
 |.cm _=>fun O O k=>k.elim
 |.an _=>fun O O k=>k.elim
 |.ag _=>fun O O k=>k.elim
 |.av _ _=>fun O O k=>k.elim
 |.gk=>fun O O k=>k.elim
 |.k v=>fun n O k=>hu (v:=v) (K:=o8 _ _ _ _) (fun O=>n _ _) k
 |.x i=>fun n O k=>by refine(sa k).elim fun v Y=>?_;exact qG Y.1<|hu (fun O=>n _ _) Y.2
 |.aM op a b=>fun n x k=>bN a (fun O O k=>bN b (fun O O k=>wQ (fun O O=>hu fun O=>n _ _) k) x k) x<|hv k
 |.bW f as=>fun n x k=>bN f (fun O O k=>jk as (fun ad O Z k=>by have k:=kf Z k;exact bf.call (fun O O=>hu fun O=>n _ _) x k) x k) x (hv k)
 |.aZ o nm as=>fun n x k=>bN o (fun O O k=>wZ (fun c k=>jk as (fun ad O Z k=>w1 bf (fun O O=>hu fun O=>n _ _) x<|kf Z k) x k) k) x<|ap k
 |.ce o nm=>fun n x k=>bN o (fun O O k=>r8 (fun O=>hu fun O=>n _ _) k) x<|ap k
 |.aE o i=>fun n x k=>bN o (fun O O k=>bN i (fun O O k=>wW (fun O=>hu fun O=>n _ _) k) x k) x<|hv k
 |.aJ o a b=>fun n x k=>bN o (fun O O k=>bN a (fun O O k=>bN b (fun O O k=>wX (fun O O=>hu fun O=>n _ _) k) x k) x k) x<|r9 k
end
end
structure w3(N:cT)(F:KF)(X:du)(s:List V)(K:c7)(E:KE):Prop where
 n:∀l h,N s l h->K .bL ⟨l,h⟩
 b:∀l h,F .dx l h->K .dx ⟨l,h⟩
 r:∀v l h,F (.ay v) l h->K (.ay v) ⟨l,h⟩
 x:∀e l h,X e l h->E e ⟨l,h⟩
theorem GQ{Q h aO xs l}(k:putK aO xs l Q):∃Z,putAll aO xs ⟨l,h⟩=some ⟨Z,h⟩/\Q Z:=by
 induction aO generalizing xs l with
 |nil=>
  cases xs with
  |nil=>exact⟨l,rfl,k⟩
  |cons=>exact k.elim
 |cons i aO ab=>
  cases xs with
  |nil=>exact k.elim
  |cons v ad=>exact ab<|iE (Q:=fun l=>putK aO ad l Q) k
theorem w4{aO v l h Q K}(n:∀l,Q l->K ⟨l,h⟩)(k:hg h (fun xs=>putK aO xs l Q) v):j1 aO true v K ⟨l,h⟩:=
 GN (fun O k=>(GQ (h:=h) k).elim fun Z z=>⟨_,z.1,n _ z.2⟩) k
theorem sb{aO Z v l h Q K}(n:∀l,Q l h->K ⟨l,h⟩)(k:ke aO Z v Q l h):j1 aO Z v K ⟨l,h⟩:=by
 cases Z with
 |false=>
  cases aO with
  |nil=>exact k.elim
  |cons i r=>
   cases r with
   |nil=>exact n _<|iE (Q:=fun l=>Q l h) k
   |cons=>exact k.elim
 |true=>exact w4 (Q:=fun l=>Q l h) n k
theorem GR{body Y aO X bb K cy E V}(S:∀{U T:c7}{J:St},(∀Z J,U Z J->T Z J)->body U E J->Y T V J)(W:∀Z J,K Z J->cy Z J)(xs):∀J:St,forR body aO X bb xs K J E->ms Y aO X bb xs cy J V:=by
 induction xs with
 |nil=>exact fun J k=>W _ _ k
 |cons v ad ab=>
  intro J k;exact sb (l:=J.l) (h:=J.h) (Q:=fun l h=>body (fun Z J=>match Z with
   |.bL=>dy bb J.h/\forR body aO X bb ad K J E
   |.dx=>K .bL J
   |.ay v=>K (.ay v) J) E ⟨l,h⟩) (fun l k=>S (fun Z J k=>by
    cases Z with
    |bL=>exact⟨k.1,ab J k.2⟩
    |dx=>exact W _ _ k
    |ay v=>exact W _ _ k) k) k
theorem GS{t U b T K cy E W J}(S:∀{Y X:KB}{J:St},(∀c J,Y c J->X c J)->t Y E J->U X W J)(R:∀{Y X:c7}{J:St},(∀Z J,Y Z J->X Z J)->b Y E J->T X W J)(V:∀Z J,K Z J->cy Z J)(k:li t b K E J):mt U T cy W J:=by
 unfold mt;unfold li at k;intro P Q;refine k P fun J k=>Q J<|S (fun c J k=>?_) k;refine hw (R fun Z J k=>?_) (V _ _) k;cases Z with
 |bL=>exact k
 |dx=>exact V _ _ k
 |ay v=>exact V _ _ k
theorem w5{Q l Y}(k:o6 Y l Q):Q (Y.map fun j=>(l[j]?).join):=by
 have l1:∀{l:cc}{j:Nat}{R:Option V->Prop},rU l j R->R (l[j]?).join:=by
  intro l;induction l with
  |nil=>intro j R k;cases j<;>exact k
  |cons a l ab=>
   intro j R k;cases j with
   |zero=>exact k
   |succ j=>exact Z List.getElem?_cons_succ<|ab k
 induction Y generalizing Q with
 |nil=>exact k
 |cons j Y ab=>exact ab<|l1 k
theorem w6{B bX be U X bb l}(T:∀{K:V->ar->Prop}{Z:fM}{l:cc}{h:ar},(∀v h,K v h->Z v ⟨l,h⟩)->h0 U K l h->wE B none bX Z (fun O O=>False) ⟨l,h⟩)(W:match be,X with
   |none,none=>True
   |some c,some r=>∀{K:V->ar->Prop}{Z:KB}{l:cc}{h:ar},(∀b h,K (.aP b) h->Z b ⟨l,h⟩)->h0 r K l h->wT B none c Z (fun O O=>False) ⟨l,h⟩
   |_,_=>False) {K cy} (R:∀S h,K S h->cy S h):∀(ad Y:List V)(h:ar),h1 U X bb l ad Y K h->gO B bX be bb l ad Y cy h:=by
 intro ad;induction ad with
 |nil=>intro O O k;exact R _ _ k
 |cons v ad ab=>
  intro Y h k;cases be with
  |none=>
   cases X with
   |none=>exact T (fun y h k=>⟨rfl,k.1,k.2.1,ab _ _ k.2.2⟩) k
   |some r=>exact W.elim
  |some c=>
   cases X with
   |none=>exact W.elim
   |some r=>exact W (fun t h k=>hw (fun k=>T (fun y h k=>⟨rfl,k.1,k.2.1,ab _ _ k.2.2⟩) k) (fun k=>⟨rfl,k.1,ab _ _ k.2⟩) k) k
section
variable{B:bS}(bf:ji B)
include bf
theorem GT{U t X E}(x:∀e l h,X e l h->E e ⟨l,h⟩){Z Y}:∀{J:St},(∀c J,Z c J->Y c J)->wC (run B U<|ff t) Z (rW X) J->wT B U t Y E J
 |⟨l,h⟩,m,k=>gW bf t (fun b h k=>m _ _ k) (fun e h k=>x _ _ _ k) k
theorem w7{e K Z l h}(m:∀v h,K v h->Z v ⟨l,h⟩)(k:h0 (run B.down none<|bG e) K l h):wE B.down none e Z (fun O O=>False) ⟨l,h⟩:=
 bN bf.down e m (fun O O k=>k) k
theorem GU{e K Z l h}(m:∀b h,K (.aP b) h->Z b ⟨l,h⟩)(k:h0 (run B.down none<|ff e) K l h):wT B.down none e Z (fun O O=>False) ⟨l,h⟩:=
 gW bf.down e m (fun O O k=>k) k
mutual
theorem GV:∀(m:cj){U:Option Nat}{N:cT}{F:KF}{X:du}{s:List V}{l:cc}{h:ar}{K:c7}{E:KE},w3 N F X s K E->run B U (o9 m) N F X s l h->wS B U m K E ⟨l,h⟩
 |.bF e=>fun a k=>bN bf e (fun O O k=>a.n _ _ k) (fun O O=>a.x _ _ _)<|ap k
 |.aG i e=>by rename_i O N O O s l O O O;intro a k;exact bN bf e (fun v h k=>a.n _ _<|iE (Q:=fun l=>N s l h) (show gU l i (some v) fun l=>N s l h from k)) (fun O O=>a.x _ _ _)<|ap k
 |.ev aO e=>by
  rename_i U O O O O O O O O;intro a k;cases U with
  |some=>exact k.elim
  |none=>
  exact⟨rfl,bN bf e (fun O O k=>w4 (a.n · _) k) (fun O O=>a.x _ _ _)<|ap k⟩
 |.cn o n e=>fun a k=>bN bf e (fun O O k=>bN bf o (fun O O k=>wY (a.n _) k) (fun O O=>a.x _ _ _) k) (fun O O=>a.x _ _ _)<|hv k
 |.c0 o i e=>fun a k=>bN bf e (fun O O k=>bN bf o (fun O O k=>bN bf i (fun O O k=>GJ (a.n _) k) (fun O O=>a.x _ _ _) k) (fun O O=>a.x _ _ _) k) (fun O O=>a.x _ _ _)<|r9 k
 |.c1 i op e=>by rename_i O N O O s l O O O;intro a k;obtain⟨v,W⟩:=sa k;exact qG W.1<|bN bf e (fun y h k=>wR (R:=fun u=>gU l i (some u) fun l=>N s l h) (fun O k=>a.n _ _<|iE (Q:=fun l=>N s l h) k) k) (fun O O=>a.x _ _ _) W.2
 |.gm o n op e=>fun a k=>bN bf o (fun O O k=>r8 (fun O k=>bN bf e (fun O O k=>wR (fun O k=>wY (a.n _) k) k) (fun O O=>a.x _ _ _) k) k) (fun O O=>a.x _ _ _)<|ap k
 |.ay e=>fun a k=>bN bf e (fun O O k=>a.r _ _ _ k) (fun O O=>a.x _ _ _)<|ap k
 |.ca e=>fun a k=>bN bf e (fun O O k=>GL (fun O O=>a.x _ _ _) k) (fun O O=>a.x _ _ _)<|ap k
 |.aB t b o=>fun a k=>gW bf t (fun O O k=>hw (gd b a) (gd o a) k) (fun O O=>a.x _ _ _)<|ap k
 |.dO t b=>fun a k=>GS (GT bf a.x) (fun{T S J} m k=>by
   obtain⟨l,h⟩:=J;exact gd b ⟨fun O O=>m _ _,fun O O=>m _ _,fun O O O=>m _ _,fun O O O=>a.x _ _ _⟩ k) (fun Y J k=>by
   obtain⟨l,h⟩:=J;cases Y with
   |bL=>exact a.n _ _ k
   |dx=>exact a.b _ _ k
   |ay v=>exact a.r _ _ _ k) k
 |.b6 aO h3 it b=>by
  rename_i U N F X s l O O O;intro a k;cases U with
  |some=>exact k.elim
  |none=>
  exact⟨rfl,bN bf it (fun v h k=>by
    refine GM (fun xs bb k=>?_) k;exact GR (fun{T S J} m k=>by
      obtain⟨l,h⟩:=J;exact gd b ⟨fun O O=>m _ _,fun O O=>m _ _,fun O O O=>m _ _,fun O O O=>a.x _ _ _⟩ k) (fun Y J k=>by
      obtain⟨l,h⟩:=J;cases Y with
      |bL=>exact a.n _ _ k
      |dx=>exact a.b _ _ k
      |ay v=>exact a.r _ _ _ k) xs _ k) (fun O O=>a.x _ _ _) (ap k)⟩
 |.brk=>fun a k=>a.b _ _ k
 |.pass=>fun a k=>a.n _ _ k
 |.f4 aO h3 bI it bX none=>by
  rename_i U N F X s l O O O;intro a k;cases U with
  |some=>exact k.elim
  |none=>
  exact⟨rfl,bN bf it (fun v h k=>by exact w0 (fun xs bb k=>w6 (w7 bf) trivial (fun Z h k=>jj (fun v h k=>sb (a.n · _) k) k) xs _ _<|w5 (Q:=fun lc=>h1 (run B.down none<|bG bX) none bb lc xs [] (fun Z h=>cE (.ag Z) (fun v h=>ke aO h3 v (fun l h=>N s l h) l h) h) h) k) k) (fun O O=>a.x _ _ _) (ap k)⟩
 |.f4 aO h3 bI it bX (some c)=>by
  rename_i U N F X s l O O O;intro a k;cases U with
  |some=>exact k.elim
  |none=>
  exact⟨rfl,bN bf it (fun v h k=>by exact w0 (fun xs bb k=>w6 (be:=some c) (X:=some<|run B.down none<|ff c) (w7 bf) (GU bf) (fun Z h k=>jj (fun v h k=>sb (a.n · _) k) k) xs _ _<|w5 (Q:=fun lc=>h1 (run B.down none<|bG bX) (some<|run B.down none<|ff c) bb lc xs [] (fun Z h=>cE (.ag Z) (fun v h=>ke aO h3 v (fun l h=>N s l h) l h) h) h) k) k) (fun O O=>a.x _ _ _) (ap k)⟩
 |.f3 b nm sd=>by
  rename_i U N F X s l h K E;intro a k;exact gd b (N:=fun O l h=>N s l h) ⟨a.n,a.b,a.r,fun e l h k=>by
    refine⟨k.1,?_⟩;cases nm with
    |none=>exact gd sd (N:=fun O l h=>N s l h) ⟨a.n,a.b,a.r,a.x⟩ k.2
    |some i=>exact gd sd ⟨fun O h k o=>a.n _ _<|iE (Q:=fun l=>N s l h)<|k o,fun O h k o=>a.b _ _<|iE (Q:=fun l=>F .dx l h)<|k o,fun v O h k o=>a.r _ _ _<|iE (Q:=fun l=>F (.ay v) l h)<|k o,fun e O h k o=>a.x _ _ _<|iE (Q:=fun l=>X e l h)<|k o⟩<|iE (Q:=fun l=>run B (some e) (cf sd) _ _ _ [] l h) k.2⟩ k
 |.im b f=>by
  rename_i U N F X s l h K E;intro a k;exact gd b ⟨fun O O k=>gd f (N:=fun O l h=>N s l h) ⟨a.n,a.b,a.r,a.x⟩ k,
    fun O O k=>gd f (N:=fun O l h=>F .dx l h) ⟨a.b,a.b,a.r,a.x⟩ k,
    fun v O O k=>gd f (N:=fun O l h=>F (.ay v) l h) ⟨a.r v,a.b,a.r,a.x⟩ k,
    fun e l h k=>GO (fun h k=>gd f ⟨fun O O k=>⟨k.1,a.x _ _ _ k.2⟩,fun O O k=>k.elim,fun O O O k=>k.elim,a.x⟩ k) k⟩ k
theorem gd:∀(m:List cj){U:Option Nat}{N:cT}{F:KF}{X:du}{s:List V}{l:cc}{h:ar}{K:c7}{E:KE},w3 N F X s K E->run B U (cf m) N F X s l h->wSs B U m K E ⟨l,h⟩
 |[]=>fun a k=>a.n _ _ k
 |t::r=>fun a k=>GV t ⟨fun O O k=>gd r a k,a.b,a.r,a.x⟩<|ap k
end
omit bf
theorem GW{Q l}(k:r1 l Q):Q l:=by
 induction l generalizing Q with
 |nil=>exact k
 |cons a l ab=>exact ab (Q:=fun l=>Q<|a::l) k
theorem GX{Q Z l}(k:r2 Z l Q):Q (Z.map some++l.drop Z.length):=by
 induction Z generalizing l Q with
 |nil=>exact GW k
 |cons a Z ab=>
  cases l with
  |nil=>exact k.elim
  |cons b l=>exact ab (Q:=fun l=>Q<|some a::l) k
theorem m2{U f Y P E h}(bf:ji B)(k:aR.go B U f Y P E h):aR.call B U f Y P E h:=by
 unfold aR.go wF at k;split at k
 .rename_i q;simp only[Bool.and_eq_true,decide_eq_true_eq]at q;refine q.elim fun V X=>?_;refine V.elim fun T W=>?_;have k:=GX k;have e:f.start Y=some (Y.map some++f.r3.drop Y.length):=by unfold aR.start;rw[if_pos ⟨X,((bV 0x2021028123001108101002040c208103) W (bt f.dZ f.dflt.length)<|Nat.sub_add_cancel X)⟩,map_append,append_assoc];congr 2;unfold aR.r3;rw[drop_append,length_replicate,drop_replicate,Nat.sub_eq_zero_of_le W,replicate_zero,nil_append,drop_append_of_le_length (by rw[length_map];exact((bV 0x41028123041088101002040c208103) X (bt f.dZ f.dflt.length)<|bz W)),<-map_drop];congr 3;exact bR ((gM 0x3040a04980850a049018442040808402040c288104) (bt f.dZ Y.length) (bt Y.length<|f.dZ-f.dflt.length) (bz<|(bV 0x2021028123001108101002040c208103) W (bt f.dZ f.dflt.length)<|bz X)<|bz T)<|(gM 0x142060a048c2820a0480204620408084020404308104) (bt f.dflt.length<|f.dZ-Y.length) (bt f.dZ f.dflt.length) (bz X)<|bz W
  unfold aR.call;exact Z e<|gd bf f.body ⟨fun O O k=>k,fun O O k=>k,fun O O O k=>k,fun O O O k=>k⟩ k
 .exact k.elim
end
end
end
set_option tactic.hygienic false
section
open PySem PySem.Calls PyProof.Rows PySem.W
open Hq (K0)
theorem lookup_mem{aq ck:Type}[BEq aq][LawfulBEq aq]{a b}:∀{l:List (aq×ck)},l.lookup a=some b->(a,b)∈l:=by
 intro l;induction l with
 |nil=>intro h;cases h
 |cons pp r ab=>obtain⟨x,y⟩:=pp;intro h;rw[lookup_cons]at h;split at h;rename_i e;cases h;rw[beq_iff_eq]at e;rw[e];exact .head _;exact .tail _<|ab h
theorem GY:∀q∈rD,∃u,toV u=q.2/\bootBuiltins q.1=some u/\q.1≠Str.ofString "__name__":=by unfold rD;refine forall_mem_cons.mpr ⟨⟨.builtin "len",rfl,by kernel_rfl,by decide+kernel⟩,?_⟩;refine forall_mem_cons.mpr ⟨⟨.builtin "ord",rfl,by kernel_rfl,by decide+kernel⟩,?_⟩;refine forall_mem_cons.mpr ⟨⟨.builtin "chr",rfl,by kernel_rfl,by decide+kernel⟩,?_⟩;refine forall_mem_cons.mpr ⟨⟨.type "str",rfl,by kernel_rfl,by decide+kernel⟩,?_⟩;refine forall_mem_cons.mpr ⟨⟨.type "range",rfl,by kernel_rfl,by decide+kernel⟩,?_⟩;refine forall_mem_cons.mpr ⟨⟨.builtin "isinstance",rfl,by kernel_rfl,by decide+kernel⟩,?_⟩;refine forall_mem_cons.mpr ⟨⟨.builtin "sorted",rfl,by kernel_rfl,by decide+kernel⟩,?_⟩;refine forall_mem_cons.mpr ⟨⟨.type "Exception",rfl,by kernel_rfl,by decide+kernel⟩,?_⟩;refine forall_mem_cons.mpr ⟨⟨.type "tuple",rfl,by kernel_rfl,by decide+kernel⟩,fun O h=>by cases h⟩
set_option tactic.hygienic true in
theorem GZ(p){B}(X:(K0 p).In B.h₀)(G:B.h₀.Ns mainGlobals B.i2)(Z:∀x:Str,x≠Str.ofString "__name__"->B.hi x=bootBuiltins x):∀x v,gS (K0 p) x=some v->k3 B x v:=by
 intro x v h;unfold gS at h;split at h;rename_i u e;cases h;exact⟨u,rfl,.inl<|mg_of X G e⟩;rename_i e;obtain⟨u,Y,W,V⟩:=GY _<|lookup_mem h;exact⟨u,Y,.inr ⟨mg_none_of X G e,(Z x V).trans W⟩⟩
 .cases h
theorem w8{B n}:r6 (oV B n):=fun Z Y k F A J f us X W V U T S R=>
 have z:=k F A J f us X W V U T S R
 ⟨z.1,z.2.mono (fun O O q=>⟨q.1,Z _ _ q.2⟩) fun O O q=>⟨q.1,Y _ _ q.2⟩⟩
theorem m3{B L n}:ji (c8 B L n):=⟨w8,w8⟩
theorem a7(p){ax B}(x:gw B (fe p ax))(X:(K0 p).In B.h₀):aQ (oV B) ax where
 fn:=fun h O Y O O O O O k=>by obtain⟨b,N⟩:=Fy p _<|lookup_mem h;exact DB x X N Y (m2 m3 k)
 mkVar:=fun Y O O O O k=>wc x X (V:=694) (by kernel_rfl) (by kernel_rfl) (by kernel_rfl) (by kernel_rfl) (by kernel_rfl) (Fp p) Y fun d a Z S R=>m2 m3 (k d a Z S R)
 wG:=fun Y O O O O k=>wc x X (V:=843) (by kernel_rfl) (by kernel_rfl) (by kernel_rfl) (by kernel_rfl) (by kernel_rfl) (Fq p) Y fun d a Z S R=>m2 m3 (k d a Z S R)
 wH:=fun Y O O O O O M k=>Gb x X (D:=81) (r5 p) (by kernel_rfl) (by kernel_rfl) (by kernel_rfl) (by kernel_rfl) (Fo p) Y M fun a Z=>m2 m3 (k a Z)
 wI:=fun{n U P E h a v} K k=>Ga (L:=fe p ax) (n:=n) X (r5 p) K k
 len_str:=fun{n U P E h y} W k=>w_len_str (L:=fe p ax) (n:=n) W k
 len_list:=fun{n U P E h a y} V W k=>w_len_list (L:=fe p ax) (n:=n) V W k
 GA:=fun{n U P E h a e y} V W k=>FD (L:=fe p ax) (n:=n) x.b V W k
 wJ:=fun{n U P E h a y} V W k=>FC (n:=n) x V W k
 ord:=fun{n U P E h c} k=>FE (L:=fe p ax) (n:=n) k
 chr:=fun{n U P E h i} T Z k=>FF (L:=fe p ax) (n:=n) T Z k
 ll:=fun{n U P E h i} T k=>FG (L:=fe p ax) (n:=n) T k
 iC:=fun{n U P E h i} T Z k=>FH (L:=fe p ax) (n:=n) T Z k
 eF:=fun{n U P E h i j c} J Q I H T Z k=>FI (L:=fe p ax) (n:=n) J Q I H T Z k
 wK:=fun{n U P E h a y} V k=>FJ (L:=fe p ax) (n:=n) V k
 wL:=fun{n U P E h y} k=>wg (L:=fe p ax) (n:=n) X (by kernel_rfl) k
 wM:=fun{n U P E h y} k=>wg (L:=fe p ax) (n:=n) X (by kernel_rfl) k
end
section
open PySem
def in_list:=@ip.list
def ei:=@ip.tup
def gX:=@ip.av
def xa:=@ip.b2
def de:=@f6.str
def eA:=@f6.list
def KM:=@f6.tup
def dA:=@f6.av
noncomputable def m5(j:Int):Bool:=and (decide (-(2^62)<j))<|decide (j<2^62)
def pb{aq:Type}(j:Int)(xs:List aq):Option aq:=cond (m5 j) (c9 j xs) none
theorem se{aq j xs}{v:aq}(h:pb j xs=some v):m5 j=true/\c9 j xs=some v:=
 (Bool.eq_false_or_eq_true<|m5 j).elim (fun q=>⟨q,(bn (fun b=>cond b (c9 j xs) none) q).symm.trans h⟩) fun q=>absurd ((bn (fun b=>cond b (c9 j xs) none) q).symm.trans h) nofun
theorem sf{j}(h:m5 j=true):-(2^62)<j:=aU (Bool.and_eq_true_iff.mp h).1
theorem sg{j}(h:m5 j=true):j<2^62:=aU (Bool.and_eq_true_iff.mp h).2
theorem kg{B h K}{s:aa}{j c}(Z:pb j s=some c)(k:K (.S [c])):f6 B h K (.S s) (.ae j):=(se Z).elim fun p q=>.str q (sf p) (sg p) k
theorem bj{B h K a xs j v}(Z:h a=some (.ag xs))(X:pb j xs=some v)(k:K v):f6 B h K (.Y a) (.ae j):=(se X).elim fun p q=>.list Z q (sf p) (sg p) k
theorem cC{B h K a xs j v}(Z:h a=some (.an xs))(X:pb j xs=some v)(k:K v):f6 B h K (.Y a) (.ae j):=(se X).elim fun p q=>.tup Z q (sf p) (sg p) k
def G0:=@f6.ax
def fz:=@mi.str
def ej:=@mi.list
def dB:=@mj.inst
def gy:=@mj.exc
def jl:=@jY.inst
def lp:=@jY.exc
def G1:=@jY.dY
def eB:=@mm.av
def xb:=@mm.b2
def eK:=@fO.str
def eL:=@fO.app
def xc:=@fO.get
def lq:=@fO.pop
def pc:=@fO.own
def G2:=@fO.cls
def G3:=@fO.typ
def lr:=@ed.pre
def G4:=@ed.oy
def xd:=@ed.find
def xe:=@ed.oz
def G5:=@ed.low
def kh:=@ed.join
def eM:=@ed.app
def xf:=@ed.get
def sh:=@ed.pop
def G6:=@ed.da
def xg:=@iZ.list
def G7:=@iZ.b2
def add_list:=@ou.mk
theorem jm{E h a C d c}(Z:h a=some (.bD C d c))(k:E a h):i1 E h none (.Y a):=.mk Z<|.none k
theorem G8{E h a C d c}(Z:h a=some (.bD C d c))(k:E a h):i1 E h (some a) (.Y a):=.mk Z<|.same k
theorem G9{E h a b C d W V c Z}(U:h a=some (.bD C d c))(T:h b=some (.bD W V Z))(X:b≠a)(S:c.ctx=false)(R:Z.ctx=false)(k:E a (h.set a<|.bD C d ⟨true,c.b8⟩)):i1 E h (some b) (.Y a):=.mk U<|.new T X S R k
def Ha:=@hg.list
def eY:=@hg.tup
def hx:=@fP.list
def si:=@fP.tup
def gY:=@fP.av
def Hb:=@fP.b2
def xh:=@hh.list
def sj:=@hh.range
def m6:=@fP.range
def m7:=@fP.eF
def Hc:=@mr.mk
theorem ge{c a b}(Z:¬c=true->b)(Y:c=true->a):eV c a b:=by cases c;exact Z (by exact aU);exact Y rfl
theorem a9{q}{X:Decidable q}{a b}(Z:¬q->b)(Y:q->a):eV (decide q) a b:=ge (fun h=>Z fun x=>h<|decide_eq_true x) fun h=>Y<|aU h
theorem dec_not{q}{Z:Decidable q}{a b}(Y:q->b)(X:¬q->a):eV (!decide q) a b:=by
 cases Z with
 |isFalse h=>exact ge (fun x=>absurd rfl x) fun O=>X h
 |isTrue h=>exact ge (fun O=>Y h) fun x=>by trivial
set_option tactic.hygienic true in
theorem eZ{Z body K E}{aq:Type}(m:aq->Nat)(I:aq->St->Prop)(S:St->Prop)(V:∀J,S J->K .bL J)(W:∀(Y:c7)(U:St->Prop),(∀{l h},S ⟨l,h⟩->U ⟨l,h⟩)->∀a,(∀T X,m T<m a->I T X->Y .bL X)->(∀{l h},S ⟨l,h⟩->Y .dx ⟨l,h⟩)->(∀v J,K (.ay v) J->Y (.ay v) J)->∀J,I a J->Z (fun t J=>eV t (body Y E J)<|U J) E J){a J}(h:I a J):li Z body K E J:=
 GB m I (fun P a J aj ab=>by
  refine W _ _ ?_ a ?_ ?_ ?_ J aj;exact fun{l h}=>V ⟨l,h⟩;exact ab;exact fun{l h}=>V ⟨l,h⟩
  .exact fun O O k=>k) h
theorem Hd:∀a b:List cj,cf (a++b)=cf a++cf b:=by
 intro a;induction a with
 |nil=>intro O;exact rfl
 |cons s a ab=>intro b;show o9 s++cf (a++b)=o9 s++cf a++cf b;rw[ab b,append_assoc]
def atS(N:cT)(J:St):Prop:=match J with|⟨l,h⟩=>N [] l h
theorem stmts{B U a b N F X l h}(W:St->Prop)(Y:∀J,W J->atS (run B U (cf b) N F X) J)(k:∀Z:cT,(∀{l h},W ⟨l,h⟩->Z [] l h)->run B U (cf a) Z F X [] l h):run B U (cf<|a++b) N F X [] l h:=by rw[Hd,je];exact k _ fun{l h} j=>Y ⟨l,h⟩ j
theorem fT{N F}{Z:St->Prop}(k:∀{l h},Z ⟨l,h⟩->N [] l h):∀J,Z J->rV N F [] .bL J:=fun⟨_,_⟩ j=>k j
theorem m8{i n:Nat}(h:i<=n):(max (0:Int)<|min (i:Int) n).toNat=i:=by exact Z (Int.min_eq_left<|Int.ofNat_le.mpr h)<|Z (Int.max_eq_right<|Int.natCast_nonneg i) rfl
theorem sk{i n:Nat}(h:n<=i):(max (0:Int)<|min (i:Int) n).toNat=n:=by exact Z (Int.min_eq_right<|Int.ofNat_le.mpr h)<|Z (Int.max_eq_right<|Int.natCast_nonneg n) rfl
theorem pd{n i}(h:i<=n):clip n (i:Int)=i:=by unfold clip;exact Z (if_neg<|by exact(aF 0x8081a0))<|m8 h
theorem m9{aq}{s:List aq}{a b}(Z:a<=s.length)(Y:b<=s.length):gr (.ae a) (.ae b) s=some ((s.take b).drop a):=by unfold gr;simp only[pd Z,pd Y]
theorem lu{aq}{s:List aq}{a}(Z:a<=s.length):gr (.ae a) .a5 s=some (s.drop a):=by unfold gr;simp only[pd Z,take_length]
section
variable{C:eW}{ax:Nat->Option (List V)}{n:Nat}{U:Option Nat}{P:a3 V}{E:a3 Nat}{h:ar}
theorem ki(c:aQ C ax)(X:n<=90){d}(k:∀Z,Ext h Z->P (.aP<|b9 d) Z):C n U (.Y 202) [.S [d]] P E h:=by refine c.fn rfl X ?_;intro a W;exact ei (aD) rfl (aL)<|k _ (aw W)
theorem sl(c:aQ C ax)(K:n<=90){d}(k:P (.ae<|dig d) h):C n U (.Y 209) [.S [d]] P E h:=by
 refine c.fn rfl K ?_;refine c.len_str (succ_pos _) ?_;refine c.ord ?_;have N:¬(48<=d/\d<=57)->P (.ae (if 97<=d/\d<=122 then(d:Int)-87 else if 65<=d/\d<=90 then(d:Int)-55 else-1)) h:=fun q=>by unfold dig at k;rw[if_neg q]at k;exact k
 have Q:¬(97<=d/\d<=122)->¬(48<=d/\d<=57)->P (.ae (if 65<=d/\d<=90 then(d:Int)-55 else-1)) h:=fun q r=>by have:=N r;rw[if_neg q]at this;exact this
 have Z:¬(65<=d/\d<=90)->¬(97<=d/\d<=122)->¬(48<=d/\d<=57)->P (.ae (-1)) h:=fun q r s=>by have:=Q r s;rw[if_neg q]at this;exact this
 have R {a b:Nat} (h:¬(a:Int)<=(d:Int)):¬(a<=d/\d<=b):=fun q=>h<|Int.ofNat_le.mpr q.1;have V {a b:Nat} (h:¬(d:Int)<=(b:Int)):¬(a<=d/\d<=b):=fun q=>h<|Int.ofNat_le.mpr q.2;refine a9 (fun M=>?_) fun M=>?_;refine a9 (fun X=>?_) fun X=>?_;refine a9 (fun W=>?_) fun W=>?_;exact Z (R W) (R X)<|R M;exact absurd (Int.le_trans (by exact bQ) W) M;exact absurd (Int.le_trans (by exact bQ) X) M;refine a9 (fun X=>?_) fun X=>?_;refine a9 (fun W=>?_) fun W=>?_;refine a9 (fun T=>?_) fun T=>?_;exact Z (R T) (R W)<|V X;refine a9 (fun O=>?_) fun O=>?_;exact Z (V O) (R W)<|V X;have:=Q (R W)<|V X;rw[if_pos ⟨Int.ofNat_le.mp T,Int.ofNat_le.mp O⟩]at this;exact this;refine a9 (fun T=>?_) fun T=>?_;refine a9 (fun O=>?_) fun O=>?_;exact absurd (Int.le_trans (by exact bQ) W) O;refine a9 (fun L=>?_) fun L=>?_;exact Z (V L) (V T)<|V X;exact absurd (Int.le_trans L<|bQ) T;have:=N<|V X;rw[if_pos ⟨Int.ofNat_le.mp W,Int.ofNat_le.mp T⟩]at this;exact this;unfold dig at k;rw[if_pos ⟨Int.ofNat_le.mp M,Int.ofNat_le.mp X⟩]at k;exact k
noncomputable def sm:Option Int->V|some v=>.ae v|none=>.a5
theorem xi(c:aQ C ax)(T:n<=89){t b}(Q:b.natAbs<2^64)(k:P (sm<|fx t b) h):C n none (.Y 216) [.S t,.ae b] P E h:=by
 refine c.fn rfl (af T) ?_;unfold fx at k;refine a9 (fun Z=>?_) fun Z=>?_
 .rw[if_neg Z]at k;refine dI (fun X J=>er fun r v x y=>ct (X=r.map (fun c=>V.S [c])) (J=⟨[some<|.S t,some<|.ae b,some<|.ae v,x,y],h⟩)<|P (sm<|iz b r v) h) ?_ ?_ ⟨t,0,none,none,rfl,rfl,k⟩;rintro v ad O ab N bm J ⟨r,w,x,y,R,rfl,k⟩;cases r with|nil=>trivial|cons d r=>cases R;refine sl c (am T) ?_;rw[Gc]at k;refine a9 (fun W=>?_) fun W=>?_;refine a9 (fun U=>?_) fun U=>?_;rw[if_neg<|not_or_intro W U]at k;refine⟨.inr Q,?_⟩;exact(ab _ trivial ⟨r,_,_,_,rfl,rfl,k⟩);rw[if_pos<|Or.inr U]at k;exact bm _ _ k;rw[if_pos<|Or.symm<|Or.inr W]at k;exact bm _ _ k
  .rintro J ⟨r,w,x,y,R,rfl,k⟩;cases r with|cons d r=>trivial|nil=>exact k
 .rw[if_pos Z]at k;exact k
theorem He(c:aQ C ax)(L:n<=90){d}(k:∀M,Ext h M->P (.ae<|baseOf d) M):C n U (.Y 223) [.S [d]] P E h:=by
 refine c.fn rfl L ?_;have V:∀x y:Nat,dh (.S [d]) [.S [x],.S [y]]=decide (d=x\/d=y):=fun x y=>by simp[gp,gq]
 unfold baseOf at k;intro K Z;refine ei (aD) rfl (aL) ?_;rw[V];refine a9 (fun R=>?_) fun R=>?_;rw[if_neg R]at k;intro J X;refine ei (aD) rfl (aL) ?_;rw[V];refine a9 (fun Q=>?_) fun Q=>?_;rw[if_neg Q]at k;intro I W;refine ei (aD) rfl (aL) ?_;rw[V];refine a9 (fun O=>?_) fun O=>?_;rw[if_neg O]at k;intro H T;refine ei (aD) rfl (aL) ?_;rw[V];refine a9 (fun N=>?_) fun N=>?_;rw[if_neg N]at k;exact k _<|(((aw Z).trans<|aw X).trans<|aw W).trans<|aw T;rw[if_pos N]at k;exact k _<|(((aw Z).trans<|aw X).trans<|aw W).trans<|aw T;rw[if_pos O]at k;exact k _<|((aw Z).trans<|aw X).trans<|aw W;rw[if_pos Q]at k;exact k _<|(aw Z).trans<|aw X;rw[if_pos R]at k;exact k _<|aw Z
theorem xj{t r:aa}{d i}(h:t.drop i=d::r)(U:b9 d=true):dz (t.drop i)=dz (t.drop<|i+1):=by
 rw[(dv h).2.2,h];conv=>lhs;rw[k9]
 rw[if_pos U]
theorem drop_cons{t:aa}{i}(h:i<t.length):bs fun d r=>t.drop i=d::r:=⟨_,_,drop_eq_getElem_cons h⟩
theorem so{d}{r:aa}(h:b9 d=false):dz (d::r)=d::r:=by rw[k9];rw[if_neg<|by simp[h]]
theorem Hf{aq}{s:List aq}(h:3<=s.length):er fun a b c r=>s=a::b::c::r:=by
 rcases s with _|⟨a,_|⟨b,_|⟨c,r⟩⟩⟩
 .exact absurd h<|aU
 .exact absurd h<|aU
 .exact absurd h<|aU
 .exact⟨a,b,c,r,rfl⟩
theorem Hg(m):(baseOf m).natAbs<=16:=by have k {c:Prop} [Decidable c] {a b:Int} (Z:a.natAbs<=16) (Y:b.natAbs<=16):(if c then a else b).natAbs<=16:=iteInduction (motive:=fun x:Int=>x.natAbs<=16) (fun O=>Z) fun O=>Y;exact k (Nat.le_refl _)<|k (aL)<|k (aL)<|k (aL)<|zero_le _
theorem Hh(neg){s}(h:s.length<=2):hr neg s=(fx s 10).map fun v=>if neg then-v else v:=by
 cases s with
 |nil=>rfl
 |cons a s=>
  cases s with
  |nil=>rfl
  |cons b s=>
   cases s with
   |nil=>exact bn (Option.map _)<|if_neg fun q=>q.2.1 rfl
   |cons=>exact absurd h<|Nat.not_le_of_gt<|aL
theorem Hi(neg){d}{r:aa}(U:d≠48):hr neg (d::r)=(fx (d::r) 10).map fun v=>if neg then-v else v:=by
 cases r with
 |nil=>rfl
 |cons m r=>exact bn (Option.map _)<|if_neg fun q=>U q.1
theorem Hj(neg){m e}{r:aa}:hr neg (48::m::e::r)=((if 0<baseOf m then fx (e::r) (baseOf m)else fx (48::m::e::r) 10).map fun v=>if neg then-v else v):=by by_cases g:0<baseOf m;exact bn (Option.map _)<|(if_pos ⟨rfl,cons_ne_nil _ _,g⟩).trans (if_pos g).symm;exact bn (Option.map _)<|(if_neg fun q=>g q.2.2).trans (if_neg g).symm
theorem xk(c:aQ C ax)(K:n<=88){t}(N:t.length<=16000000)(k:∀X,Ext h X->P (sm<|wholeOf t) X):C n none (.Y 230) [.S t] P E h:=by
 refine c.fn rfl (af K) ?_;refine c.len_str (af N) ?_;intro a p;refine eY (aD) ?_;refine eZ (fun i:Nat=>t.length-i) (fun i J=>∃X,cQ (Ext h X) (i<=t.length) (dz (t.drop i)=dz t)<|J=⟨[some<|.S t,some<|.ae i,some<|.ae t.length,none,none,none],X⟩)
  (fun J=>bs fun i X=>cQ (Ext h X) (i<=t.length) (t.drop i=dz t)<|J=⟨[some<|.S t,some<|.ae i,some<|.ae t.length,none,none,none],X⟩) ?_ ?_ (a:=0) ⟨_,aw p,zero_le _,rfl,rfl⟩
 .rintro J ⟨i,X,x,aj,I,rfl⟩;show run _ _ (cf<|[_]++_) _ _ _ _ _ _;refine stmts (fun J=>bs fun j X=>eE (Ext h X) (i<=j) (j<=t.length) ((t.take j).drop i=trim t)<|J=⟨[some<|.S t,some<|.ae i,some<|.ae j,none,none,none],X⟩) ?_ fun w M=>?_
  .rintro J ⟨j,X,x,aj,V,I,rfl⟩;show run _ _ (cf<|[_,_]++_) _ _ _ _ _ _;refine stmts (fun J=>gJ fun(i j:Nat)(neg:Bool)(s:aa)(X:ar)=>fI (Ext h X) (i<=j) (j<=t.length) ((t.take j).drop i=s) (wholeOf t=hr neg s)<|J=⟨[some<|.S t,some<|.ae i,some<|.ae j,some<|.aP neg,none,none],X⟩) ?_ fun w M=>?_
   .rintro J ⟨i,j,neg,s,X,x,aj,V,D,B,rfl⟩;have ls:s.length=j-i:=aW D<|Z length_drop<|Z length_take<|Z (Nat.min_eq_left V) rfl;show run _ _ (cf<|[_,_]++_) _ _ _ _ _ _;refine stmts (fun J=>bs fun(b:Int)(X:ar)=>eE (Ext h X) (b.natAbs<=16) (hr neg s=((if 0<b then fx (s.drop 2) b else fx s 10).map fun v=>if neg then-v else v)) (0<b->i+2<=j)<|J=⟨[some<|.S t,some<|.ae i,some<|.ae j,some<|.aP neg,some<|.ae b,none],X⟩) ?_ fun w M=>?_
    .rintro J ⟨b,X,x,o,T,u,rfl⟩;refine a9 (fun W=>?_) fun W=>?_
     .rw[if_neg W]at T;refine fz (m9 ((aT 0x80881010020408008102) aj V) V) (af N) (d4<|⟨(aF g5),((aT 0x84081011021e8480060808108000000000000000fc888173) N aj V)⟩) (d4<|⟨(aF g5),((az 0x11021e8480060808108000000000000000fc888172) N V)⟩) ?_;refine xi c (am K) (aL) ?_;rw[D];rcases q:fx s 10 with _|v
      .
       rw[q]at T;have:=k X x;rw[B,T]at this;exact this
      .
       rw[q]at T;have:=k X x;rw[B,T]at this;cases neg<;>exact this
     .rw[if_pos W]at T;have H:=u W;refine fz (t:=s.drop 2) (Z (show((i:Int)+2)=((i+2:Nat):Int) by exact Int.le_antisymm (aF 0x4088056044028160)<|aF 0x4088050220158160)<|Z (m9 (by exact((aT 0x102241408080102022044828102) V H)) V)<|aW D<|Z drop_drop rfl) (af N) (d4<|⟨(aF qg),((aT 0x881120a040008810f42400304040840000000000000007e6044828173) N V H)⟩) (d4<|⟨(aF g5),((az 0x11021e8480060808108000000000000000fc888172) N V)⟩) ?_;refine xi c (am K) (iX o rfl) ?_;rcases q:fx (s.drop 2) b with _|v
      .
       rw[q]at T;have:=k X x;rw[B,T]at this;exact this
      .
       rw[q]at T;have:=k X x;rw[B,T]at this;cases neg<;>exact this
    .refine a9 (fun W=>?_) fun W=>?_;refine M ⟨0,X,x,zero_le _,?_,(fun q=>absurd q nofun),rfl⟩;exact Z (if_neg nofun)<|Hh neg (ls▸Nat.sub_le_iff_le_add.mpr (Int.ofNat_le.mp<|Int.le_add_of_sub_right_le<|Int.not_lt.mp W))
     .refine(Hf<|z8 W ls).elim fun d m e r l=>?_
      .subst l;have q:=dv D;have A:t[i]?=some d:=aW q.1<|Z (List.getElem?_take_of_lt<|Nat.lt_of_sub_eq_succ<|id<|Eq.symm ls) rfl;have g:=dv q.2.2;have f:t[i+1]?=some m:=aW g.1<|Z (List.getElem?_take_of_lt<|lt_of_succ_lt<|gap W) rfl;refine de (gV.trans A) cL (qv (bp aj<|bp V N) rfl) ?_;refine a9 (fun R=>?_) fun R=>?_;refine M ⟨0,X,x,zero_le _,?_,(fun q=>absurd q nofun),rfl⟩;rw[if_neg nofun];exact Hi neg fun q=>R<|Z q rfl
       .have U:d=48:=by simpa using R
        subst U;refine de (Z (show((i:Int)+1)=((i+1:Nat):Int) from rfl)<|Z gV<|Z f rfl) (aF gH) (qv (n:=i+1) (bp (le_of_succ_le<|le_of_succ_le<|gap W)<|bp V N) rfl) ?_;refine He c (am K) fun L x3=>?_;refine M ⟨baseOf m,L,x.trans x3,Hg m,?_,(fun O=>le_of_succ_le<|gap W),rfl⟩;exact Hj neg
   .refine a9 (fun W=>?_) fun W=>?_
    .have e:trim t=[]:=aW I<|drop_of_length_le<|by rw[length_take];exact bp (Nat.min_le_left _ _)<|Nat.le_of_not_lt fun q=>W<|Int.ofNat_lt.mpr q
     refine M ⟨i,j,false,[],X,x,aj,V,I.trans e,by unfold wholeOf;exact Z e rfl,rfl⟩
    .refine(drop_cons (t:=t.take j) (i:=i)<|Z length_take<|(aT 0x410813100205c8008112) W<|Nat.min_eq_left V).elim fun d r e=>?_;have q:=dv e;have A:t[i]?=some d:=aW q.1<|Z (List.getElem?_take_of_lt<|Int.ofNat_lt.mp W) rfl;rw[I]at e;refine de (gV.trans A) cL ((aT 0x20840b8011021e8480060808108000000000000000fc908173) N V W) ?_;intro a2 z;refine ei (aD) rfl (aL) ?_;rw[show dh (.S [d]) [.S [43],.S [45]]=decide (d=43\/d=45) by simp[gp,gq]];refine a9 (fun R=>?_) fun R=>?_;refine M ⟨i,j,false,d::r,_,x.trans<|aw z,aj,V,I.trans e,?_,rfl⟩;unfold wholeOf;rw[e];exact(if_neg fun e=>R<|.inr e).trans<|if_neg fun e=>R<|.inl e
     .refine de (gV.trans A) cL ((aT 0x20840b8011021e8480060808108000000000000000fc908173) N V W) ?_;refine M ⟨i+1,j,decide ([d]=[45]),r,_,x.trans<|aw z,(Int.ofNat_lt.mp W),V,q.2.2,?_,rfl⟩;unfold wholeOf;rw[e];rcases R with rfl|rfl
      .exact(if_neg nofun).trans<|if_pos rfl
      .exact(if_pos rfl)
  .refine eZ (fun j:Nat=>j) (fun j J=>∃X,eE (Ext h X) (i<=j) (j<=t.length) (dz ((t.take j).drop i).reverse=dz (dz t).reverse)<|J=⟨[some<|.S t,some<|.ae i,some<|.ae j,none,none,none],X⟩)
    (fun J=>bs fun j X=>eE (Ext h X) (i<=j) (j<=t.length) ((t.take j).drop i=trim t)<|J=⟨[some<|.S t,some<|.ae i,some<|.ae j,none,none,none],X⟩) ?_ ?_ (a:=t.length) ⟨_,x,aj,Nat.le_refl _,Z take_length<|Z I rfl,rfl⟩
   .exact fT M
   rintro Q Kx G j ab kb bm J ⟨X,x,aj,V,U,rfl⟩;refine a9 (fun W=>?_) fun W=>?_;have e:(t.take j).drop i=[]:=drop_of_length_le (by rw[length_take];exact bp (Nat.min_le_left _ _)<|Nat.le_of_not_lt fun q=>W<|Int.ofNat_lt.mpr q);rw[e]at U;exact G ⟨j,X,x,aj,V,by rw[e];unfold trim;exact aW U rfl,rfl⟩
   .obtain⟨m,rfl⟩:∃m,j=m+1:=⟨j-1,bR ((az n5)<|bt j 1)<|(az n6)<|bz<|(az 0x100205c44098101) W⟩;have y:m<t.length:=((az 0x440900a0404008111) V);have e:((t.take (m+1)).drop i).reverse=t[m]::((t.take m).drop i).reverse:=by rw[take_succ_eq_append_getElem y,drop_append_of_le_length<|by exact Z length_take<|(aT 0x82102702442a0205c8008102) W<|Nat.min_eq_left<|le_of_succ_le V];simp
    refine de (c:=t[m]) (Z zs<|Z gV<|Z (List.getElem?_eq_getElem y) rfl) (Z zs cL) (Z zs<|qv (bp (Nat.le_of_lt y) N) rfl) ?_;refine ki c (am K) fun R F=>?_;refine ge (fun L=>?_) fun L=>?_
    .refine G ⟨m+1,R,x.trans F,aj,V,?_,rfl⟩;rw[e,so<|by simpa using L]at U;unfold trim;rw[<-U,<-e,reverse_reverse]
    .refine ab m _ (aF 0x81201008110) ⟨R,x.trans F,((az 0x102442a0205c4008101) W),(le_of_succ_le V),?_,Z zs rfl⟩;rw[e]at U;rw[<-U];conv=>rhs
     exact(if_pos L).symm
 .rintro Q Kx G i ab kb bm J ⟨X,x,aj,U,rfl⟩;refine a9 (fun W=>?_) fun W=>?_;have:t.drop i=[]:=drop_of_length_le<|Int.ofNat_le.mp<|Int.not_lt.mp W;rw[this]at U;exact G ⟨i,X,x,aj,this.trans U,rfl⟩
  .refine(drop_cons (t:=t) (i:=i)<|Int.ofNat_lt.mp W).elim fun d r e=>?_;refine de (eX e) cL ((az p8) N W) ?_;refine ki c (am K) fun R F=>?_;refine ge (fun L=>?_) fun L=>?_
   .refine G ⟨i,R,x.trans F,aj,aW U<|Z e<|Z (so<|by simpa using L) rfl,rfl⟩
   .exact ab (i+1) _ (sub_succ_lt_self _ _<|Int.ofNat_lt.mp W) ⟨R,x.trans F,(Int.ofNat_lt.mp W),by rw[<-xj e L];exact U,rfl⟩
noncomputable def lv(msg:aa)(q:Nat)(Z:aa)(gR:Bool)(ln:Int)(x:Nat):List (aa×V):=
 [(jC,.ae 1),(fH,.S msg),(lS,.Y q),([108,101,118,101,108],.ae 0),([114,101,116],.ae 0),(jA,.S Z),(nN,.aP gR),(kE,.ae ln),([101,120,116,114,97],.Y x)]
structure xl(h:ar)(e d:Nat)(c:hc)(X:cb):Prop where
 at_:h e=some (.bD 84 d c)
 dict:bs fun q x=>h d=some (.bK<|lv X.msg q [] false 0 x)/\h q=some (.an<|X.d5.map .S)
structure cq(h X:ar)(e:Nat)(c:hc)(W:cb):Prop where
 ext:Ext h X
 fresh:h e=none
 p:∃d,h d=none/\xl X e d c W
def gZ(h:ar)(a d:Nat)(c:hc)(es:List (aa×V)):ar:=(h.set d<|.bK es).set a<|.bD 84 d c
theorem pe{h a d c es}:gZ h a d c es a=some (.bD 84 d c):=aD
theorem sq{h a d c es}(Z:d≠a):gZ h a d c es d=some (.bK es):=by unfold gZ;rw[bl Z,ar.at]
theorem Hk{h a d c es X}(W:d≠a):(gZ h a d c es).set d (.bK X)=gZ h a d c X:=by funext b;unfold gZ ar.set;by_cases q:b=d;subst q;exact(if_pos rfl).trans<|(if_pos rfl).symm.trans (if_neg W).symm;rw[if_neg q];by_cases Y:b=a;exact(if_pos Y).trans (if_pos Y).symm;exact Z (if_neg Y)<|Z (if_neg Y)<|Z (if_neg q)<|Z (if_neg q) rfl
theorem kj{B Q h a d c es n v}(X:d≠a)(W:B.ec 84 n=true)(V:es.length<=100)(k:Q (gZ h a d c<|put n v es)):jZ B (.Y a) n v Q (gZ h a d c es):=by exact lp pe (sq X) W V<|Z (Hk X) k
theorem jn(c:aQ C ax)(O:n<=88){msg q d5}(I:h q=some (.an<|d5.map .S))(k:∀e N,cq h N e {} ⟨msg,d5⟩->P (.Y e) N):C n U (.Y 139) [.S msg,.Y q] P E h:=by
 refine c.fn rfl (af O) ?_;refine c.wH (am O) (aL) fun a M=>?_;refine G3 rfl ?_;refine c.wI (aD) ?_;refine G1 (aD) rfl fun d W=>?_;have X:d≠a:=fun q=>by subst q;have:(h.set d (.dY 84)) d=none:=W;rw[ar.at]at this;trivial
 have hd0:h d=none:=by
  have:(h.set a (.dY 84)) d=none:=W
  rwa [bl X]at this
 have R:∀{es:List (aa×V)},Ext h (gZ (h.set a (.dY 84)) a d {} es):=fun{es} b o e=>by
  have L:b≠a:=fun q=>by rw[q,show h a=none from M]at e;trivial
  have H:b≠d:=fun q=>by rw[q,hd0]at e;trivial
  exact(bl L).trans<|(bl H).trans<|(bl L).trans e
 refine kj X rfl (a1) ?_;refine kj X rfl (a1) ?_;refine kj X rfl (a1) ?_;refine kj X rfl (a1) ?_;refine kj X rfl (a1) ?_;refine kj X rfl (a1) ?_;refine kj X rfl (a1) ?_;intro x Q;have T:a≠x:=fun q=>by subst q;have:gZ (h.set a (.dY 84)) a d {} _ a=none:=Q;rw[pe]at this;trivial
 have K:d≠x:=fun q=>by subst q;have:gZ (h.set a (.dY 84)) a d {} _ d=none:=Q;rw[sq X]at this;trivial
 refine lp ((bl T).trans pe) ((bl K).trans<|sq X) rfl (a1) ?_;have G:=(R (es:=_)).trans<|aw (o:=.ag []) Q;have J:Ext h (((gZ (h.set a (.dY 84)) a d {} _).set x (.ag [])).set d (.bK (lv msg q [] false 0 x))):=fun b o e=>by exact Z (bl (fun q=>by rw[q,hd0]at e;trivial))<|G b o e
 exact⟨rfl,k a _ ⟨J,M,d,hd0,⟨(bl<|Ne.symm X).trans<|(bl T).trans pe,q,x,aD,J _ _ I⟩⟩⟩
noncomputable def lw(t:aa):cb:=⟨tw++t++[34],[cD,dX,[78,85,77,66,69,82]]⟩
theorem cq.pre{h Y Z e c X}(y:cq Y Z e c X)(x:Ext h Y):cq h Z e c X:=by obtain⟨a,b,d,U,p⟩:=y;exact⟨x.trans a,x.fresh b,d,x.fresh U,p⟩
theorem sr(c:aQ C ax)(X:n<=86){t}(W:t.length<=16000000)(T:∀v Z,wholeOf t=some v->Ext h Z->P (.ae v) Z)(R:∀e Z,wholeOf t=none->cq h Z e {} (lw t)->E e Z):C n none (.Y 237) [.S t] P E h:=by
 refine c.fn rfl (af X) ?_;refine xk c (am X) W fun Q V=>?_;cases q:wholeOf t with
 |some v=>exact T v Q q V
 |none=>refine⟨((aF 0x1e84800608081080000019203414a8101) W),?_⟩;refine⟨by simp;exact af W,?_⟩;intro a O;refine jn c (am X) (d5:=[cD,dX,[78,85,77,66,69,82]]) (aD) fun e N y=>?_;refine y.p.elim fun d U=>?_;refine jm U.2.at_ ?_;exact R e N q<|y.pre<|V.trans<|aw O
theorem Hl(c:aQ C ax)(Z:n<=86)(k:∀X,Ext h X->P (.aP true) X):C n none (.Y 244) [.S g4] P E h:=by refine c.fn rfl (af Z) ?_;refine xk c (am Z) (aL) fun T W=>?_;refine eK rfl ?_;refine G5 ?_;intro a V;refine ei (aD) rfl (aL) ?_;rw[show dh (.S g4) [.S [],.S [111]]=false by rfl];intro b U;refine si (aD) ?_;refine eK rfl ?_;refine lr ?_;refine⟨aD,?_⟩;refine eK rfl ?_;refine lr ?_;exact k _<|(W.trans<|aw V).trans<|aw U
theorem Hm(c:aQ C ax)(Z:n<=85)(k:∀X,Ext h X->P (.aP true) X):C n none (.Y 251) [.S g4] P E h:=by refine c.fn rfl (af Z) ?_;refine Hl c (am Z) fun V W=>?_;exact k _ W
theorem Hn(n)(s)(v)(Z:0<=v)(Y:v<=1114111):0<=(di n s v).1/\(di n s v).1<=1114111:=by
 induction n generalizing s v with
 |zero=>exact⟨Z,Y⟩
 |succ n ab=>
  cases s with
  |nil=>exact⟨Z,Y⟩
  |cons c r=>
   rw[wh];split
   .rename_i X;split;exact⟨Z,Y⟩;rename_i U;exact ab r _ (Int.add_nonneg (Int.mul_nonneg Z<|by exact bQ)<|Int.not_lt.mp fun q=>U<|.inl q)<|Int.le_trans (Int.add_le_add (Int.mul_le_mul_of_nonneg_right X<|by exact bQ)<|Int.not_lt.mp fun q=>U<|.inr q)<|by exact bQ
   .exact⟨Z,Y⟩
theorem xm(n c)(r:aa)(v):di (n+1) (c::r) v=if v<=69631 then(if dig c<0\/15<dig c then(v,c::r)else di n r (v*16+dig c))else(v,c::r):=rfl
theorem Ho(n c)(r:aa)(v):dH (n+1) (c::r) v=if v<32 then(if dig c<0\/7<dig c then(v,c::r)else dH n r (v*8+dig c))else(v,c::r):=rfl
theorem Hp(n)(s)(v)(Z:0<=v)(Y:v<=1114111):0<=(dH n s v).1/\(dH n s v).1<=1114111:=by
 induction n generalizing s v with
 |zero=>exact⟨Z,Y⟩
 |succ n ab=>
  cases s with
  |nil=>exact⟨Z,Y⟩
  |cons c r=>
   rw[wi];split
   .rename_i X;split;exact⟨Z,Y⟩;rename_i U;exact ab r _ (Int.add_nonneg (Int.mul_nonneg Z<|by exact bQ)<|Int.not_lt.mp fun q=>U<|.inl q)<|Int.le_trans (Int.add_le_add (Int.mul_le_mul_of_nonneg_right (Int.le_of_lt_add_one (b:=31) X)<|by exact bQ)<|Int.not_lt.mp fun q=>U<|.inr q)<|by exact bQ
   .exact⟨Z,Y⟩
theorem Hr(c:aQ C ax)(u:n<=88){t r:aa}{X d N}(M:t.length<=16000000)(U:t.drop X=d::r)(G:N=if d=117 then 4 else if d=85 then 8 else 2)(k:∀a F,Ext h F->F a=some (.an [.S (if(di N r 0).2.length=r.length then[d]else[(di N r 0).1.toNat]),.ae ((t.length-(di N r 0).2.length:Nat):Int)])->P (.Y a) F):
  C n none (.Y 258) [.S t,.ae X] P E h:=by
 have bx:=dv U;have p:r.length=t.length-(X+1):=by exact aW bx.2.2 (length_drop ..)
 refine c.fn rfl (af u) ?_;show run _ _ (cf<|[_,_,_,_]++_) _ _ _ _ _ _;refine stmts (fun J=>J=⟨[some<|.S t,some<|.ae X,some<|.ae (X+1+N:Nat),some<|.ae (X+1:Nat),some<|.ae 0,none],h⟩) ?_ fun l L=>?_
 .rintro J rfl;show run _ _ (cf<|[_]++_) _ _ _ _ _ _;refine stmts (fun J=>∃x,J=⟨[some<|.S t,some<|.ae X,some<|.ae (X+1+N:Nat),some<|.ae (t.length-(di N r 0).2.length:Nat),some<|.ae (di N r 0).1,x],h⟩) ?_ fun l L=>?_
  .rintro J ⟨x,rfl⟩;have j:=(wo N r 0).length_le;refine a9 (fun W=>?_) fun W=>?_
   .have:(di N r 0).2.length≠r.length:=fun q=>W<|bn Int.ofNat<|by exact Z q<|Z p<|Z (Nat.sub_sub_self bx.2.1) rfl
    obtain⟨g,f⟩:=Hn N r 0 (by exact bQ) (by exact bQ);refine c.chr g f ?_;intro a D;exact k a _ (aw D)<|Z (if_neg this) (aD)
   .have:(di N r 0).2.length=r.length:=by exact bR j<|(fK 0x1040930842812504120810812611081810020494008104) p W (bt t.length<|(di N r 0).snd.length)<|bz bx.2.1
    refine de (eX U) cL (by exact((az p9) M bx.2.1)) ?_;intro a D;exact k a _ (aw D)<|Z (if_pos this) (aD)
  .refine eZ (fun a:Nat×aa×Int=>a.1) (fun a J=>bs fun(i:Nat)(x:Option V)=>eE (t.drop i=a.2.1) (i<=t.length) (i+a.1=X+1+N) (di a.1 a.2.1 a.2.2=di N r 0)<|J=⟨[some<|.S t,some<|.ae X,some<|.ae (X+1+N:Nat),some<|.ae i,some<|.ae a.2.2,x],h⟩)
    (fun J=>∃x,J=⟨[some<|.S t,some<|.ae X,some<|.ae (X+1+N:Nat),some<|.ae (t.length-(di N r 0).2.length:Nat),some<|.ae (di N r 0).1,x],h⟩) ?_ ?_ (a:=(N,r,0)) ⟨X+1,none,bx.2.2,by exact bx.2.1,rfl,rfl,rfl⟩
   .exact fT L
   rintro Q b B ⟨m,s,v⟩ ab o bm J ⟨i,x,H,aj,K,R,rfl⟩;dsimp only at H K R ab;have ls:s.length=t.length-i:=by exact aW H (length_drop ..)
   have T:∀y:Option V,(v,s)=di N r 0->(⟨[some (.S t),some (.ae X),some (.ae (X+1+N:Nat)),some (.ae i),some (.ae v),y],h⟩:St)=⟨[some (.S t),some (.ae X),some (.ae (X+1+N:Nat)),some (.ae (t.length-(di N r 0).2.length:Nat)),some (.ae (di N r 0).1),y],h⟩:=fun y q=>by rw[<-q];exact Z (show t.length-s.length=i by exact bR ((bV 0x200102812302110810100204cc208103) ls (bt t.length i)<|bz<|(aT n8) ls<|sub_le t.length i)<|(bV 0x2080428120061108101002048c208103) ls (bt t.length s.length)<|bz aj) rfl
   refine a9 (fun W=>?_) fun W=>?_
   .have:m=0:=by exact bR ((bh 0xc40920950103462049048400502400888102) K W)<|aF 0x18100
    subst this;exact B ⟨_,T _ R⟩
   .obtain⟨m,rfl⟩:∃a8,m=a8+1:=⟨m-1,by exact bR ((az n5)<|bt m 1)<|(az n6)<|bz<|(bh 0x18812412a0205cc4092090800a04c44098102) K W⟩;refine c.len_str (af M)<|a9 (fun O=>?_) (fun O=>?_);have:s=[]:=length_eq_zero_iff.mp (by exact bR ((bh 0x60808502460840d080102400808103) ls O<|bz aj)<|aF 0x18100);subst this;exact B ⟨_,T _ R⟩
    .obtain⟨e,I,rfl⟩:bs fun e I=>s=e::I:=by
      cases s with
      |nil=>exact absurd ls<|ne_of_lt<|Nat.sub_pos_of_lt<|Int.ofNat_lt.mp O
      |cons e I=>exact⟨e,I,rfl⟩
     refine a9 (fun A=>?_) fun A=>?_;rw[xm,if_neg A]at R;exact B ⟨_,T _ R⟩;refine de (eX H) cL (by exact((az p8) M O))<|sl c (am u) ?_;rw[xm,if_pos A]at R;refine a9 (fun z=>?_) fun z=>?_;refine a9 (fun w=>?_) fun w=>?_;rw[if_neg fun q=>q.elim z w]at R;refine⟨.inr (by exact aL),?_⟩;exact ab (m,I,v*16+dig e) _ (lt_succ_self _) ⟨i+1,some<|.ae<|dig e,(dv H).2.2,by exact(Int.ofNat_lt.mp O),by exact bR ((bh 0x310248250244200a048c409209088120128101) K)<|(bh 0x310248250244200a04c4409009188124128101) K,R,rfl⟩;exact o ⟨_,T (some<|.ae<|dig e)<|(if_pos<|.inr w).symm.trans R⟩;exact o ⟨_,T (some<|.ae<|dig e)<|(if_pos<|.inl z).symm.trans R⟩
 .refine de (eX U) cL (by exact((az p9) M bx.2.1))<|a9 (fun W=>?_) (fun W=>?_)
  .refine de (eX U) cL (by exact((az p9) M bx.2.1))<|a9 (fun O=>?_) (fun O=>?_)
   .have:N=2:=by exact G.trans<|(if_neg fun q=>W<|by rw[q]).trans<|if_neg fun q=>O<|by rw[q]
    subst this;exact L rfl
   .have U:d=85:=by simpa using O
    have:N=8:=by exact Z G<|Z U rfl
    subst this;exact L rfl
  .have U:d=117:=by simpa using W
   have:N=4:=by exact Z G<|Z U rfl
   subst this;exact L rfl
theorem Hs(c:aQ C ax)(B:n<=88){t r:aa}{X}(A:t.length<=16000000)(U:t.drop X=r)(z:X<=t.length)(k:∀a L,Ext h L->L a=some (.an [.S [(dH 3 r 0).1.toNat],.ae ((t.length-(dH 3 r 0).2.length:Nat):Int)])->P (.Y a) L):
  C n none (.Y 265) [.S t,.ae X] P E h:=by
 have j:r.length=t.length-X:=by exact aW U (length_drop ..)
 refine c.fn rfl (af B) ?_;show run _ _ (cf<|[_,_]++_) _ _ _ _ _ _;refine stmts (fun J=>J=⟨[some<|.S t,some<|.ae X,some<|.ae X,some<|.ae 0,none],h⟩) ?_ fun u K=>?_
 .rintro J rfl;show run _ _ (cf<|[_]++_) _ _ _ _ _ _;refine stmts (fun J=>∃x,J=⟨[some<|.S t,some<|.ae X,some<|.ae (t.length-(dH 3 r 0).2.length:Nat),some<|.ae (dH 3 r 0).1,x],h⟩) ?_ fun u K=>?_;rintro J ⟨x,rfl⟩;obtain⟨p,o⟩:=Hp 3 r 0 (by exact bQ) (by exact bQ);refine c.chr p o ?_;intro a l;exact k a _ (aw l)<|aD
  .refine eZ (fun a:Nat×aa×Int=>a.1) (fun a J=>bs fun(i:Nat)(x:Option V)=>eE (t.drop i=a.2.1) (i<=t.length) (i+a.1=X+3) (dH a.1 a.2.1 a.2.2=dH 3 r 0)<|J=⟨[some<|.S t,some<|.ae X,some<|.ae i,some<|.ae a.2.2,x],h⟩)
    (fun J=>∃x,J=⟨[some<|.S t,some<|.ae X,some<|.ae (t.length-(dH 3 r 0).2.length:Nat),some<|.ae (dH 3 r 0).1,x],h⟩) ?_ ?_ (a:=(3,r,0)) ⟨X,none,U,z,rfl,rfl,rfl⟩
   .exact fT K
   rintro Q g I ⟨m,s,v⟩ ab w bm J ⟨i,x,M,aj,R,T,rfl⟩;dsimp only at M R T ab;have ls:s.length=t.length-i:=by exact aW M (length_drop ..)
   have W:∀y:Option V,(v,s)=dH 3 r 0->(⟨[some (.S t),some (.ae X),some (.ae i),some (.ae v),y],h⟩:St)=⟨[some (.S t),some (.ae X),some (.ae (t.length-(dH 3 r 0).2.length:Nat)),some (.ae (dH 3 r 0).1),y],h⟩:=fun y q=>by rw[<-q];exact Z (show t.length-s.length=i by exact bR ((bV 0x200102812302110810100204cc208103) ls (bt t.length i)<|bz<|(aT n8) ls<|sub_le t.length i)<|(bV 0x2080428120061108101002048c208103) ls (bt t.length s.length)<|bz aj) rfl
   refine a9 (fun H=>?_) fun H=>?_
   .have:m=0:=by exact bR ((aT 0x1822410081ac11208400502400888102) R H)<|aF 0x18100
    subst this;exact I ⟨_,W _ T⟩
   .obtain⟨m,rfl⟩:∃a8,m=a8+1:=⟨m-1,by exact bR ((az n5)<|bt m 1)<|(az n6)<|bz<|(aT 0x3044820102f822410800a04c44098102) R H⟩;refine c.len_str (af A)<|a9 (fun O=>?_) (fun O=>?_);have:s=[]:=length_eq_zero_iff.mp (by exact bR ((bh 0x60808502460840d080102400808103) ls O<|bz aj)<|aF 0x18100);subst this;exact I ⟨_,W _ T⟩
    .obtain⟨e,N,rfl⟩:bs fun e N=>s=e::N:=by
      cases s with
      |nil=>exact absurd ls<|ne_of_lt<|Nat.sub_pos_of_lt<|Int.ofNat_lt.mp O
      |cons e N=>exact⟨e,N,rfl⟩
     rw[Ho]at T;refine a9 (fun G=>?_) fun G=>?_;exact I ⟨_,W _<|(if_neg G).symm.trans T⟩;rw[if_pos G]at T;refine de (eX M) cL (by exact((az p8) A O))<|sl c (am B)<|a9 (fun F=>?_) (fun F=>?_);refine a9 (fun D=>?_) fun D=>?_;rw[if_neg fun q=>q.elim F D]at T;refine⟨.inr (by exact aL),?_⟩;exact ab (m,N,v*8+dig e) _ (lt_succ_self _) ⟨i+1,some<|.ae<|dig e,(dv M).2.2,by exact(Int.ofNat_lt.mp O),by exact bR ((aT 0x3044828122100502582241088120128101) R)<|(aT 0x304482812210050262204804b044828101) R,T,rfl⟩;exact w ⟨_,W (some<|.ae<|dig e)<|(if_pos<|.inr D).symm.trans T⟩;exact w ⟨_,W (some<|.ae<|dig e)<|(if_pos<|.inl F).symm.trans T⟩
 .exact K rfl
theorem xn(d)(l)(i):(f5 d i (l.map (·.1))=-1/\look d l=none)\/bs fun j v=>cQ (f5 d i (l.map (·.1))=((i+j:Nat):Int)) (j<l.length) ((l.map (·.2))[j]?=some v) (look d l=some v):=by
 induction l generalizing i with
 |nil=>exact .inl ⟨rfl,rfl⟩
 |cons p r ab=>
  obtain⟨a,b⟩:=p;by_cases q:d=a;exact .inr ⟨0,b,if_pos q.symm,succ_pos _,rfl,if_pos q⟩
  .refine(ab<|i+1).imp (fun k=>⟨(if_neg<|Ne.symm q).trans k.1,(if_neg q).trans k.2⟩) fun k=>k.elim fun j v k=>k.elim fun Z Y X W=>⟨j+1,v,(if_neg<|Ne.symm q).trans<|Z.trans ?_,succ_lt_succ Y,X,(if_neg q).trans W⟩;rw[Nat.add_assoc,Nat.add_comm 1]
theorem Ht(d):(f5 d 0 [97,98,102,110,114,116,118]=-1/\rL d=none)\/bs fun(i:Nat)(v:Nat)=>cQ (f5 d 0 [97,98,102,110,114,116,118]=i) (i<7) ([7,8,12,10,13,9,11][i]?=some v) (rL d=some v):=by have:=xn d [(97,7),(98,8),(102,12),(110,10),(114,13),(116,9),(118,11)] 0;simp only[Nat.zero_add]at this;exact this
theorem xo{t:aa}{i}(aj:i<=t.length):gr (.ae i) (.ae (i+1:Nat)) t=some ((t.drop i).take 1):=by
 rcases Nat.lt_or_ge i t.length with q|q
 .exact Z (m9 aj q)<|Z take_drop rfl
 .have:i=t.length:=by exact bR aj<|(az 0x10020740088101) q
  subst this;have Y:clip t.length ((t.length:Nat):Int)=t.length:=pd<|Nat.le_refl _;have X:clip t.length ((t.length+1:Nat):Int)=t.length:=by unfold clip;exact Z (if_neg<|by exact(aF 0x181201581a0))<|sk (i:=t.length+1)<|le_succ _
  unfold gr;simp only[Y,X];simp
theorem xp(c:aQ C ax)(G:n<=87){t r:aa}{X}(T:t.length<=15000000)(U:t.drop X=92::r)(k:∀a R,Ext h R->R a=some (.an [.S (bZ r).1,.ae ((t.length-(bZ r).2.length:Nat):Int)])->P (.Y a) R):
  C n none (.Y 272) [.S t,.ae X] P E h:=by
 have bx:=dv U;have N:r.length=t.length-(X+1):=by exact aW bx.2.2 (length_drop ..)
 refine c.fn rfl (af G) ?_;have z:gr (.ae ((X:Int)+1)) (.ae ((X:Int)+2)) t=some (r.take 1):=by exact aW bx.2.2<|Z (show((X:Int)+1)=((X+1:Nat):Int) from rfl)<|Z (show((X:Int)+2)=((X+1+1:Nat):Int) by exact Int.le_antisymm (aF 0x8130240256044028160)<|aF 0x81100a04c0900958160)<|xo<|by exact bx.2.1
 cases r with
 |nil=>refine fz (t:=[]) z (af T) (by exact d4<|⟨(aF gH),((az 0x4408f270e0182020420000000000000003f3024428172) T bx.2.1)⟩) (by exact d4<|⟨(aF qg),((az 0x8811e4e1c0304040840000000000000007e6044428172) T bx.2.1)⟩) ?_;intro a W;exact k a _ (aw W) (by simp only[bZ];exact Z (show t.length-([]:aa).length=X+1 by exact(bR ((aT 0x4092080211020000181381241088102) N<|bt t.length<|X+1) bx.2.1))<|aD)
 |cons d r=>
  have L:=dv bx.2.2;simp only[length_cons]at N;refine fz (t:=[d]) z (af T) (by exact d4<|⟨(aF gH),((az p6) T L.2.1)⟩) (by exact d4<|⟨(aF qg),((az 0x102442811e4e1c0304040840000000000000007e6044428172) T L.2.1)⟩)<|eK rfl<|xd ?_;rcases Ht d with⟨F,K⟩|⟨i,v,F,K,m,l⟩
  rotate_left
  .rw[F];refine de (by exact gV.trans m) cL (by exact((aF 0xe0c808118000000000000000fc808171) K)) ?_;intro a W;refine k a _ (aw W) ?_;simp only[bZ,l];exact Z (show t.length-r.length=X+2 by exact bR ((bV 0x1000814094093084221020220480502702261208103) N (bt t.length<|X+1)<|bz<|(aT 0x2022040440900a0488008102) N<|sub_le t.length<|X+1)<|(bV 0x108128108502400c221020220480502462045028103) N (bt t.length r.length)<|bz<|(az n7) L.2.1)<|aD
  rw[F];refine a9 (fun O=>?_) fun O=>?_;rotate_left
  .have O:d=10:=by simpa using O
   subst O;refine eZ (fun i:Nat=>t.length-i) (fun i J=>∃R,cQ (Ext h R) (i<=t.length) (iA (t.drop i)=iA r)<|J=⟨[some<|.S t,some<|.ae X,some<|.S [10],some<|.ae<|-1,some<|.ae i],R⟩)
    (fun J=>∃R,Ext h R/\J=⟨[some<|.S t,some<|.ae X,some<|.S [10],some<|.ae<|-1,some<|.ae (t.length-(iA r).length:Nat)],R⟩) ?_ ?_ (a:=X+2) ⟨h,Ext.rfl,by exact((az 0x220480502222044028101) L.2.1),by exact a4 L.2.2,rfl⟩
   .rintro J ⟨R,x,rfl⟩;intro a W;exact k a _ (x.trans<|aw W)<|aD
   .rintro Q j y i ab g bm J ⟨R,x,aj,I,rfl⟩;refine fz (t:=(t.drop i).take 1) (xo aj) (af T) (by exact d4<|⟨(aF g5),((az qa) T aj)⟩) (by exact d4<|⟨(aF gH),((az 0x44087270e0182020420000000000000003f3024428172) T aj)⟩) ?_;intro a W;refine ei (aD) rfl (by exact aL) ?_;have ls:(t.drop i).length=t.length-i:=by exact length_drop ..
    rcases q:t.drop i with _|⟨e,s⟩
    .
     rw[q]at ls I;rw[show dh (.S<|([]:aa).take 1) [.S [32],.S [9]]=false by rfl];refine y ⟨_,x.trans<|aw (o:=.an [.S [32],.S [9]]) W,?_⟩;exact aW I<|Z (show t.length-(iA []).length=i by exact(bR ((aT 0x1000844080000604c8088102) ls<|bt t.length i) aj)) rfl
    .
     rw[q]at ls I;simp only[length_cons]at ls;rw[show dh (.S<|(e::s).take 1) [.S [32],.S [9]]=decide (e=32\/e=9) by simp[gp,gq]];refine a9 (fun M=>?_) fun M=>?_;refine y ⟨_,x.trans<|aw (o:=.an [.S [32],.S [9]]) W,?_⟩;rw[<-I];rw[wj];exact Z (if_neg M)<|Z (show t.length-(e::s).length=i by exact(bR ((bV 0x210240240a048c08442040440900a04cc208103) ls (bt t.length i)<|bz<|(aT 0x808810110240281221024028102) ls<|sub_le t.length i)<|(bV 0x2080428128120118442040440900a048c208103) ls (bt t.length<|s.length+1)<|bz aj)) rfl
     .refine ab (i+1) _ (sub_succ_lt_self _ _<|Nat.lt_of_sub_pos (ls▸succ_pos _)) ⟨_,x.trans<|aw W,by exact((bh 0x304042812110240281231024828102) ls<|bz aj),?_,rfl⟩;rw[(dv q).2.2,<-I]
      conv=>rhs
      exact(if_pos M).symm
  have O:d≠10:=fun q=>O (by exact Z q rfl);intro a W;refine ei (aD) rfl (by exact aL) ?_;rw[show dh (.S [d]) [.S [120],.S [117],.S [85]]=decide (d=120\/d=117\/d=85) by simp[gp,gq]];refine a9 (fun M=>?_) fun M=>?_;rotate_left
  .conv=>whnf
   rw[show((X:Int)+1)=((X+1:Nat):Int) from rfl];refine Hr c (am G) (af T) bx.2.2 rfl fun b w D H=>?_;refine k b _ ((aw W).trans D)<|H.trans ?_;have e:bZ (d::r)=(if(di (if d=117 then 4 else if d=85 then 8 else 2) r 0).2.length=r.length then([d],r)else([(di (if d=117 then 4 else if d=85 then 8 else 2) r 0).1.toNat],(di (if d=117 then 4 else if d=85 then 8 else 2) r 0).2)):=by simp only[bZ,K];exact(if_neg O).trans<|if_pos M
   rw[e];by_cases q:(di (if d=117 then 4 else if d=85 then 8 else 2) r 0).2.length=r.length;exact Z (if_pos q)<|Z (if_pos q)<|Z q rfl;exact Z (if_neg q)<|Z (if_neg q) rfl
  .intro b H;refine ei (aD) rfl (by exact aL) ?_;rw[show dh (.S [d]) [.S [48],.S [49],.S [50],.S [51],.S [52],.S [53],.S [54],.S [55]]=decide (48<=d/\d<=55) by simp only[gp,gq,Bool.or_false];rw[<-Bool.decide_or,<-Bool.decide_or,<-Bool.decide_or,<-Bool.decide_or,<-Bool.decide_or,<-Bool.decide_or,<-Bool.decide_or];refine decide_eq_decide.mpr ?_;simp only[V.S.injEq,List.cons.injEq,and_true];refine⟨by rintro(q|q|q|q|q|q|q|q)<;>subst q<;>exact aU,fun q=>?_⟩;obtain⟨i,rfl⟩:=Nat.exists_eq_add_of_le q.1;exact(by exact aU:∀i,i<8->(48+i=48\/48+i=49\/48+i=50\/48+i=51\/48+i=52\/48+i=53\/48+i=54\/48+i=55)) i<|Nat.lt_of_add_lt_add_left (n:=48)<|lt_succ_of_le q.2];refine a9 (fun B=>?_) fun B=>?_
   .intro A u;refine k A _ (((aw W).trans<|aw H).trans<|aw u) ?_;have e:bZ (d::r)=([d],r):=by simp only[bZ,K];exact(if_neg O).trans<|(if_neg M).trans<|if_neg B
    rw[e];exact Z (show t.length-r.length=X+2 by exact bR ((bV 0x1000814094093084221020220480502702261208103) N (bt t.length<|X+1)<|bz<|(aT 0x2022040440900a0488008102) N<|sub_le t.length<|X+1)<|(bV 0x108128108502400c221020220480502462045028103) N (bt t.length r.length)<|bz<|(az n7) L.2.1)<|aD
   .conv=>whnf
    rw[show((X:Int)+1)=((X+1:Nat):Int) from rfl];refine Hs c (am G) (af T) bx.2.2 (by exact((az n7) L.2.1)) fun A w D p=>?_;refine k A _ (((aw W).trans<|aw H).trans D) ?_;have e:bZ (d::r)=([(dH 3 (d::r) 0).1.toNat],(dH 3 (d::r) 0).2):=by simp only[bZ,K];exact(if_neg O).trans<|(if_neg M).trans<|if_pos B
    exact Z e p
theorem xq{Z r:aa}{d}(h:b9 d=true):et Z (d::r)=none:=by simp only[et,h,if_true]
theorem xr{Z r:aa}{d}(h:¬b9 d=true):et Z (d::r)=some ⟨pX++Z++pY++((d::r).take 20).takeWhile (fun c=>!b9 c)++pW,[cD,dX,hI,[74,85,78,75]]⟩:=by exact(if_neg h)
theorem xt(c:aQ C ax)(I:n<=85){t s V:aa}{X}(N:t.length<=15000000)(H:V.length<=100)(L:X<=t.length)(U:t.drop X=s)(A:∀W,et V s=none->Ext h W->P .a5 W)(l:∀e W z,et V s=some z->cq h W e {} z->E e W):
  C n none (.Y 279) [.S t,.ae X,.S V] P E h:=by
 have ls:s.length=t.length-X:=by exact aW U (length_drop ..)
 refine c.fn rfl (af I) ?_;refine c.len_str (af N) ?_;refine a9 (fun M=>?_) fun M=>?_;rotate_left;have:s=[]:=length_eq_zero_iff.mp (by exact bR ((bh 0x40c08502460840b080102400808103) ls M<|bz L)<|aF 0x18100);subst this;exact A _ rfl Ext.rfl;cases s with
 |nil=>exact absurd ls<|ne_of_lt<|Nat.sub_pos_of_lt<|Int.ofNat_lt.mp<|Int.not_le.mp M
 |cons d r=>
  refine de (eX U) cL (by exact((az 0x801037c9c38060808108000000000000000fc888172) N M)) ?_;refine ki c (am I) fun k w=>?_;refine ge (fun F=>?_) fun F=>?_;rotate_left;exact A _ (xq F) w;refine eZ (fun a:Nat×Nat=>a.2) (fun a J=>∃W,fI (Ext h W) (a.1<=t.length) (X<=a.1) (a.1+a.2=X+20) ((t.take a.1).drop X++((t.drop a.1).take a.2).takeWhile (fun c=>!b9 c)=((d::r).take 20).takeWhile (fun c=>!b9 c))<|J=⟨[some<|.S t,some<|.ae X,some<|.S V,some<|.ae a.1],W⟩)
   (fun J=>bs fun(i:Nat)(W:ar)=>eE (Ext h W) (i<=t.length) (X<=i) ((t.take i).drop X=((d::r).take 20).takeWhile (fun c=>!b9 c))<|J=⟨[some<|.S t,some<|.ae X,some<|.S V,some<|.ae i],W⟩) ?_ ?_ (a:=(X,20)) ⟨k,w,L,Nat.le_refl _,rfl,by dsimp only;exact Z U<|Z (drop_of_length_le<|by rw[length_take];exact((az 0x10020484008101)<|Nat.min_eq_left<|(az 0x100206c0088101) M)) rfl,rfl⟩
  .rintro J ⟨i,W,x,aj,T,R,rfl⟩;have G:(((d::r).take 20).takeWhile (fun c=>!b9 c)).length<=20:=bp (takeWhile_prefix _).length_le<|length_take_le _ _;refine⟨by exact((aF 0xc81c8081080000019202014a8101) H),?_⟩;refine⟨by simp;exact af H,?_⟩;refine fz (by exact(m9 L aj).trans<|a4 R) (af N) (by exact d4<|⟨(aF g5),((az 0x801037c9c38060808108000000000000000fc888172) N M)⟩) (by exact d4<|⟨(aF g5),((az qa) N aj)⟩) ?_;refine⟨by simp(iota:=false)only[length_append,length_cons,length_nil];exact((az 0xa05222043207202042000000648881302604c0981302604c0981302604c098130240149249249248040981302604c0981302604c0981302604c0981302604802924924924924928102) H G),?_⟩;refine⟨by simp(iota:=false)only[length_append,length_cons,length_nil];exact((az 0x140a44408640e404084000000c981302604c0981302604c0981302604c0981302604c098130240149249249249248440981302604c0981302604c0981302604c0981200a49249249240204c0981302604c0981302604c0981302604c09813024014924924924924928102) H G),?_⟩;intro a j;refine jn c (am I) (d5:=[cD,dX,hI,[74,85,78,75]]) (aD) fun e O y=>?_;obtain⟨g,_,p⟩:=y.p;refine jm p.at_ ?_;exact l e O _ (xr F)<|y.pre<|x.trans<|aw j
  .rintro Q f D ⟨i,m⟩ ab b bm J ⟨W,x,aj,T,K,R,rfl⟩;dsimp only at aj T K R ab;refine c.len_str (af N) ?_;refine a9 (fun O=>?_) fun O=>?_;have e:t.drop i=[]:=drop_of_length_le (by exact(Int.ofNat_le.mp<|Int.not_lt.mp O));rw[e]at R;exact D ⟨i,W,x,aj,T,by simpa using R,rfl⟩
   .obtain⟨e,s',q⟩:=drop_cons (t:=t) (i:=i) (by exact(Int.ofNat_lt.mp O));refine a9 (fun B=>?_) fun B=>?_
    .have:m=0:=by exact bR ((aT 0x5029208040d5029208400502400888102) K B)<|aF 0x18100
     subst this;exact D ⟨i,W,x,aj,T,by simpa using R,rfl⟩
    .obtain⟨m,rfl⟩:∃a8,m=a8+1:=⟨m-1,by exact bR ((az n5)<|bt m 1)<|(az n6)<|bz<|(aT 0xa0524100817a052410800a04c44098102) K B⟩;refine de (eX q) cL (by exact((az nW) N O)) ?_;refine ki c (am I) fun v u=>?_;rw[q,take_succ_cons]at R;refine ge (fun o=>?_) fun o=>?_;rw[takeWhile_cons_of_neg (by trivial),append_nil]at R;exact D ⟨i,v,x.trans u,aj,T,R,rfl⟩
     .skip;rw[takeWhile_cons_of_pos (p:=fun c=>!b9 c) o]at R;refine ab (i+1,m) _ (lt_succ_self _) ⟨v,x.trans u,by dsimp only;exact(Int.ofNat_lt.mp O),by dsimp only;exact(le_succ_of_le T),by dsimp only;exact bR ((aT 0xa0524140910802812a05241088120128101) K)<|(aT 0xa05241409108028131102402540a4828101) K,?_,rfl⟩;dsimp only;rw[<-R,(dv q).2.2,take_succ_eq_append_getElem (by exact(Int.ofNat_lt.mp O)),drop_append_of_le_length<|by exact Z length_take<|(aT 0x41081310020408008102) T<|Nat.min_eq_left<|(az 0x100205c4008101) O];have:t[i]'(by exact(Int.ofNat_lt.mp O))=e:=by have:=(dv q).1;exact a2<|(List.getElem?_eq_getElem<|by exact(Int.ofNat_lt.mp O)).symm.trans this
      exact Z this (append_assoc ..)
theorem pf{o:Option Nat}{a b}:(o.map (·+a)).map (·+b)=o.map (·+(a+b)):=by cases o<;>simp;exact bR (aT 0x80840110100128100)<|aT 0x80800910108028100
theorem Hu(c:aQ C ax)(B:n<=84){t s:aa}{X}(H:t.length<=15000000)(G:X<=t.length)(U:t.drop X=s)(m:∀a T p,hs s=.ok p->Ext h T->T a=some (.an [.S p.1,.ae ((t.length-p.2.length:Nat):Int)])->P (.Y a) T)(w:∀e T F,hs s=.error F->cq h T e {} F->E e T):
  C n none (.Y 286) [.S t,.ae X] P E h:=by
 have ls:s.length=t.length-X:=by exact aW U (length_drop ..)
 refine c.fn rfl (af B) ?_;intro a A;refine eY (aD)<|eZ (fun i:Nat=>t.length-i) (fun i J=>cP fun T d x=>fI (Ext h T) (1<=d) (X<=i) (i<=t.length+1) (dd 1 s=(dd d<|t.drop i).map (·+(i-X)))<|J=⟨[some<|.S t,some<|.ae X,some<|.ae (d:Nat),some<|.ae i,x],T⟩)
  (fun J=>bs fun T v=>ct (Ext h T) (dd 1 s=none)<|J=⟨v,T⟩) ?_ ?_ (a:=X) ⟨_,1,none,aw A,Nat.le_refl _,Nat.le_refl _,by exact(le_succ_of_le G),by rw[U,Nat.sub_self];cases dd 1 s<;>rfl,rfl⟩
 .rintro J ⟨T,v,x,V,rfl⟩;intro a A;refine jn c (am B) (d5:=[cD,dX,hI,[66,82,65,67,69]]) (aD) fun e O y=>?_;obtain⟨d',_,p⟩:=y.p;refine jm p.at_ ?_;exact w e O wm (by unfold hs;exact Z V rfl)<|y.pre<|x.trans<|aw A
 .rintro Q Kx l i ab kb bm J ⟨T,d,x,L,N,W,aj,V,rfl⟩;refine c.len_str (af H)<|a9 (fun R=>?_) (fun R=>?_);have e:t.drop i=[]:=drop_of_length_le (by exact(Int.ofNat_le.mp<|Int.not_lt.mp R));rw[e]at V;exact l ⟨_,_,L,V,rfl⟩
  .obtain⟨e,r,q⟩:=drop_cons (t:=t) (i:=i) (by exact(Int.ofNat_lt.mp R));have bx:=dv q;rw[q]at V;refine de (eX q) cL (by exact((az nW) H R))<|a9 (fun K=>?_) (fun K=>?_)
   .have K:e≠92:=fun g=>K (by exact Z g rfl);rw[o0 K]at V;refine a9 (fun I=>?_) fun I=>?_
    .have I:e≠123:=fun g=>I (by exact Z g rfl);rw[if_neg I]at V;refine a9 (fun O=>?_) fun O=>?_;have O:e≠125:=fun g=>O (by exact Z g rfl);rw[if_neg O,pf]at V;exact ab (i+1) _ (by exact(sub_succ_lt_self _ _<|Int.ofNat_lt.mp R)) ⟨T,d,_,L,N,by exact(le_succ_of_le W),by exact((az 0x100205e04885024028101) R),by exact Z bx.2.2<|Z V<|Z (show 1+(i-X)=i+1-X by exact bR ((bh qd) (bt (i+1) X)<|bz W)<|(bh qb) (bt i X)<|bz<|le_succ_of_le W) rfl,rfl⟩
     .have O:e=125:=(List.cons.inj O).1;rw[if_pos O]at V;refine a9 (fun M=>?_) fun M=>?_;have M:d≠1:=fun e=>M (by rw[e];rfl);rw[if_neg M,pf]at V;exact ab (i+1) _ (by exact(sub_succ_lt_self _ _<|Int.ofNat_lt.mp R)) ⟨T,d-1,_,L,le_sub_of_add_le<|Nat.lt_of_le_of_ne N<|Ne.symm M,by exact(le_succ_of_le W),by exact((az 0x100205e04885024028101) R),by exact Z bx.2.2<|Z V<|Z (show 1+(i-X)=i+1-X by exact bR ((bh qd) (bt (i+1) X)<|bz W)<|(bh qb) (bt i X)<|bz<|le_succ_of_le W) rfl,by exact Z (show((d-1:Nat):Int)=(d:Int)-1 from Int.ofNat_sub N) rfl⟩
      .have M:d=1:=by exact(fun{a b}=>Int.subNat_eq_zero_iff.mp) M
       rw[if_pos M]at V;have V:dd 1 s=some (i-X):=by rw[V];simp
       have D:s.drop (i-X+1)=t.drop (i+1):=by rw[<-U,drop_drop];congr 1;exact bR ((aT 0x20200281281241409008428101)<|bz W)<|(aT 0x20210081081221105024028101)<|bt i X
       refine xt (X:=i+1) c (am B) H (by exact aL) (by exact(Int.ofNat_lt.mp R)) rfl (fun u z k=>?_) fun j u F z y=>?_
       .refine fz (t:=s.take<|i-X) (by exact Z (m9 G<|by exact((az 0x100205c4008101) R))<|aW U<|Z drop_take rfl) (af H) (by exact d4<|⟨(aF g5),((az qa) H G)⟩) (by exact d4<|⟨(aF g5),((az nW) H R)⟩) ?_;intro f o;refine bm _ _<|m f _ (s.take<|i-X,s.drop<|i-X+1) (by unfold hs;rw[V];dsimp only;exact Z D<|Z z rfl) ((L.trans k).trans<|aw o) ?_;dsimp only;rw[show t.length-(s.drop<|i-X+1).length=i+1 by exact Z length_drop<|Z ls<|Nat.le_antisymm ((gM 0x1860a04941040a04a04a046108810202100810812a1308104) (bt t.length X) (bt (t.length-X)<|i-X+1) (Nat.sub_add_cancel W)<|Nat.sub_add_cancel<|(bh 0x4093088281210020404108102) (sub_le t.length X)<|Nat.sub_add_cancel<|(bV 0x1840a048c1042204040081721025028103) R (bt t.length X)<|Nat.sub_add_cancel W)<|(gM 0x184091094281230418281250811881020210081041024028104) (bt i X) (bt t.length<|t.length-X-(i-X+1)) (Nat.sub_add_cancel<|(aT 0x80881710020408008102) W R)<|Nat.sub_add_cancel<|(bV 0x1840a048c1042204040081721025028103) R (bt t.length X)<|Nat.sub_add_cancel W];exact aD
       .exact w j u F (by unfold hs;rw[V];dsimp only;exact Z D<|Z z rfl)<|y.pre L
    .have I:e=123:=(List.cons.inj I).1;rw[if_pos I,pf]at V;exact ab (i+1) _ (by exact(sub_succ_lt_self _ _<|Int.ofNat_lt.mp R)) ⟨T,d+1,_,L,by exact((aF 0x409810812014098101) N),by exact(le_succ_of_le W),by exact((az 0x100205e04885024028101) R),by exact Z bx.2.2<|Z V<|Z (show 1+(i-X)=i+1-X by exact bR ((bh qd) (bt (i+1) X)<|bz W)<|(bh qb) (bt i X)<|bz<|le_succ_of_le W) rfl,rfl⟩
   .have K:e=92:=(List.cons.inj K).1;subst K;refine ab (i+1+1) _ (Nat.sub_lt_sub_left (Int.ofNat_lt.mp R)<|lt_succ_of_lt<|lt_succ_self i) ⟨T,d,_,L,N,by exact((az 0x100204204c09109008101) W),by exact((az 0x400817812214098120128101) R),?_,rfl⟩;cases r with|nil=>rw[V,show t.drop (i+1+1)=[] by exact drop_drop.symm.trans<|congrArg _ bx.2.2];rfl|cons g r=>rw[V,show t.drop (i+1+1)=r from(dv bx.2.2).2.2];exact Z pf<|Z (show 2+(i-X)=i+1+1-X by exact bR ((bh 0x8185024404281302402502020c408a8102) (bt (i+1+1) X)<|bz W)<|(bh 0x1026048048818502440420102022045188102) (bt i X)<|bz<|(az 0x100204204c09109008101) W) rfl
theorem Ext.own{h Y}(x:Ext h Y){a}(X:h a=none)(o):Ext h (Y.set a o):=fun b p e=>by exact Z (bl (fun q=>by subst q;rw[X]at e;trivial))<|x b p e
theorem pg(l):eH [] l=l.flatten:=by
 induction l with
 |nil=>rfl
 |cons x r ab=>
  cases r with
  |nil=>exact(append_nil x).symm
  |cons y r=>rw[md,append_nil,ab];rfl
theorem kk:∀l:List aa,jV (l.map .S)=some l:=by
 intro l;induction l with
 |nil=>exact rfl
 |cons x r ab=>rw[map_cons,Ag,ab];rfl
theorem ss{t r:aa}(h:r<:+t):t.drop (t.length-r.length)=r:=(suffix_iff_eq_drop.mp h).symm
theorem Hv(c:aQ C ax)(D:n<=84){t s:aa}{N}(I:t.length<=8000000)(m:N<=t.length)(U:t.drop N=s)(kv:∀a X p,hW s=.ok p->Ext h X->X a=some (.an [.S p.1,.ae ((t.length-p.2.length:Nat):Int)])->P (.Y a) X)(l:∀e X B,hW s=.error B->cq h X e {} B->E e X):
  C n none (.Y 293) [.S t,.ae N] P E h:=by
 refine c.fn rfl (af D) ?_;intro o A;refine eZ (fun i:Nat=>t.length-i) (fun i J=>cP fun(X:ar)(W:List aa)(x:Option V)=>fm (Ext h X) (i<=t.length) (quoted s=(quoted<|t.drop i).map (fun p=>(W.flatten++p.1,p.2))) (W.length<=i) (b3 W<=i) (X o=some (.ag<|W.map .S))<|J=⟨[some<|.S t,some<|.ae i,some<|.Y o,x],X⟩)
  (fun J=>bs fun X k=>ct (Ext h X) (quoted s=none)<|J=⟨k,X⟩) ?_ ?_ (a:=N) ⟨_,[],none,aw A,m,by rw[U];cases quoted s<;>rfl,zero_le _,zero_le _,aD,rfl⟩
 .rintro J ⟨X,k,x,z,rfl⟩;intro a ha;refine jn c (am D) (d5:=[cD,dX,hI,[81,85,79,84,69]]) (aD) fun e h4 y=>?_;obtain⟨d',_,p⟩:=y.p;refine jm p.at_ ?_;exact l e h4 wn (by unfold hW;exact Z z rfl)<|y.pre<|x.trans<|aw ha
 .rintro Q Kx hx i ab kb bm J ⟨X,W,x,F,aj,R,M,O,L,rfl⟩;refine c.len_str (af I)<|a9 (fun T=>?_) (fun T=>?_);have e:t.drop i=[]:=drop_of_length_le<|Int.ofNat_le.mp<|Int.not_lt.mp T;rw[e,rN]at R;exact hx ⟨_,_,F,R,rfl⟩
  .obtain⟨e,r,q⟩:=drop_cons (t:=t) (i:=i)<|Int.ofNat_lt.mp T;have bx:=dv q;have G:r.length=t.length-(i+1):=aW bx.2.2 (length_drop ..);rw[q]at R;refine de (eX q) cL ((az nX) I T)<|a9 (fun K=>?_) (fun K=>?_)
   .have K:e≠92:=fun g=>K<|Z g rfl;refine a9 (fun H=>?_) fun H=>?_
    .have H:e≠34:=fun g=>H<|Z g rfl;rw[rQ r K H]at R;refine eL L<|eM L (dr<|(aT nZ) I M T) ?_;refine ab (i+1) _ (sub_succ_lt_self _ _<|Int.ofNat_lt.mp T) ⟨_,W++[[e]],_,F.own A _,(Int.ofNat_lt.mp T),?_,by simp;exact M,by simp[b3]at O⊢;exact O,by rw[map_append];exact aD,rfl⟩;rw[R,bx.2.2];cases quoted r<;>simp
    .have H:e=34:=by simpa using H
     subst H;rw[rP]at R;have R:quoted s=some (W.flatten,r):=by rw[R];simp
     refine xt (X:=i+1) c (am D) (af I) (aL) (Int.ofNat_lt.mp T) bx.2.2 (fun j w f=>?_) fun e2 j B w y=>?_
     .refine eK rfl ?_;refine kh (f _ _ L) (kk _) (by simp;exact((bh 0x1081390310204044087a12002e40408200000064c09108c28104) I M O T)) ?_;intro d O;refine bm _ _<|kv d _ (W.flatten,r) (by unfold hW;rw[R];dsimp only;exact Z w rfl) ((F.trans f).trans<|aw O) ?_;rw[show t.length-r.length=i+1 by exact Nat.le_antisymm ((bV 0x200102812812610844204040081381261208103) G (bt t.length<|i+1)<|Nat.sub_add_cancel<|(aT n8) G<|sub_le t.length<|i+1)<|(bV 0x210250210a04801844204040081231025028103) G (bt t.length r.length)<|Nat.sub_add_cancel<|Int.ofNat_lt.mp T,pg];exact aD
     .exact l e2 j B (by unfold hW;rw[R];dsimp only;exact Z w rfl)<|y.pre F
   .have K:e=92:=(List.cons.inj K).1;subst K;have v:=ka r;rw[rO]at R;refine xp c (am D) (af I) q fun d K u z=>?_;refine eY z<|eL (u _ _ L)<|eM (u _ _ L) (dr<|(aT nZ) I M T) ?_;refine ab (t.length-(bZ r).2.length) _ ((oq tB) G v (bt t.length<|(bZ r).snd.length) (bt t.length i) (bz<|sub_le t.length<|(bZ r).snd.length)<|bz<|Int.ofNat_lt.mp T) ⟨_,W++[(bZ r).1],_,(F.trans u).own A _,(sub_le t.length<|(bZ r).snd.length),?_,by simp;exact((gM 0x510244230a0490304a2040820810304204840081061024028105) M G v (bt t.length<|(bZ r).snd.length)<|bz<|Int.ofNat_lt.mp T),by have:=(hV r).1;simp[b3]at O⊢;exact((oq tC) O G v this (bt t.length<|(bZ r).snd.length)<|bz<|Int.ofNat_lt.mp T),by rw[map_append];exact aD,rfl⟩;have b:t.drop (t.length-(bZ r).2.length)=(bZ r).2:=ss<|(hV r).2.trans<|aW bx.2.2<|drop_suffix _ _;rw[R,b];cases quoted (bZ r).2<;>simp
theorem Hw(c:aQ C ax)(B:n<=84){t s:aa}{G}(L:t.length<=8000000)(v:G<=t.length)(U:t.drop G=s)(l:∀a W,Ext h W->W a=some (.an [.S (bare s).1,.ae ((t.length-(bare s).2.length:Nat):Int)])->P (.Y a) W):
  C n none (.Y 300) [.S t,.ae G] P E h:=by
 refine c.fn rfl (af B) ?_;intro o A;refine eZ (fun i:Nat=>t.length-i) (fun i J=>cP fun(W:ar)(X:List aa)(x:Option V)=>fm (Ext h W) (i<=t.length) (bare s=(X.flatten++(bare<|t.drop i).1,(bare<|t.drop i).2)) (X.length<=i) (b3 X<=i) (W o=some (.ag<|X.map .S))<|J=⟨[some<|.S t,some<|.ae i,some<|.Y o,x],W⟩)
  (fun J=>er fun(W:ar)(X:List aa)(x:Option V)(i:Nat)=>fm (Ext h W) (i<=t.length) (bare s=(X.flatten,t.drop i)) (X.length<=i) (b3 X<=i) (W o=some (.ag<|X.map .S))<|J=⟨[some<|.S t,some<|.ae i,some<|.Y o,x],W⟩) ?_ ?_ (a:=G) ⟨_,[],none,aw A,v,a4 U.symm,zero_le _,zero_le _,aD,rfl⟩
 .rintro J ⟨W,X,x,i,F,aj,z,T,R,N,rfl⟩;refine eK rfl ?_;refine kh N (kk _) (by simp;exact((bh 0x41881010420400088107a12002e40408200000064c09208c28104) L aj T R)) ?_;intro a k;refine l a _ (F.trans<|aw k) ?_;rw[z];rw[show t.length-(t.drop i).length=i by simp;exact Nat.le_antisymm ((bh 0x830a0488084020408188102) (bt t.length i)<|Nat.sub_add_cancel<|sub_le t.length i)<|(bh 0x1820a0488084020404188102) (bt t.length<|t.length-i)<|Nat.sub_add_cancel aj,pg];exact aD
 .rintro Q j u i ab f bm J ⟨W,X,x,F,aj,M,T,R,N,rfl⟩;refine c.len_str (af L)<|a9 (fun O=>?_) (fun O=>?_);have e:t.drop i=[]:=drop_of_length_le<|Int.ofNat_le.mp<|Int.not_lt.mp O;rw[e,o2,append_nil]at M;exact u ⟨_,_,_,i,F,aj,Z M<|Z e rfl,T,R,N,rfl⟩
  .refine(drop_cons (t:=t) (i:=i)<|Int.ofNat_lt.mp O).elim fun e r q=>?_;have bx:=dv q;have y:r.length=t.length-(i+1):=aW bx.2.2 (length_drop ..);refine de (eX q) cL ((az nX) L O)<|ki c (am B) fun d K=>?_;refine ge (fun I=>?_) fun I=>?_
   .have I:b9 e=true:=by simpa using I
    rw[q,o3 _ I,append_nil,<-q]at M;exact u ⟨_,_,_,i,F.trans K,aj,M,T,R,K _ _ N,rfl⟩
   .have I:b9 e=false:=by simpa using I
    rw[q]at M;refine de (eX q) cL ((az nX) L O)<|a9 (fun H=>?_) (fun H=>?_)
    .have H:e≠92:=fun g=>H<|Z g rfl;rw[la r I H]at M;refine eL (K _ _ N)<|eM (K _ _ N) (dr<|(aT nZ) L T O) ?_;exact ab (i+1) _ (sub_succ_lt_self _ _<|Int.ofNat_lt.mp O) ⟨_,X++[[e]],_,(F.trans K).own A _,(Int.ofNat_lt.mp O),by rw[M,bx.2.2];simp,by simp;exact T,by simp[b3]at R⊢;exact R,by rw[map_append];exact aD,rfl⟩
    .have H:e=92:=(List.cons.inj H).1;subst H;have w:=ka r;rw[kb]at M;refine xp c (am B) (af L) q fun b h5 p z=>?_;refine eY z ?_;have D:=p _ _<|K _ _ N;refine eL D<|eM D (dr<|(aT nZ) L T O) ?_;have m:t.drop (t.length-(bZ r).2.length)=(bZ r).2:=ss<|(hV r).2.trans<|aW bx.2.2<|drop_suffix _ _;exact ab (t.length-(bZ r).2.length) _ ((oq tB) y w (bt t.length<|(bZ r).snd.length) (bt t.length i) (bz<|sub_le t.length<|(bZ r).snd.length)<|bz<|Int.ofNat_lt.mp O) ⟨_,X++[(bZ r).1],_,((F.trans K).trans p).own A _,(sub_le t.length<|(bZ r).snd.length),by rw[M,m];simp,by simp;exact((gM 0x510244230a0490304a2040820810304204840081061024028105) T y w (bt t.length<|(bZ r).snd.length)<|bz<|Int.ofNat_lt.mp O),by have:=(hV r).1;simp[b3]at R⊢;exact((oq tC) R y w this (bt t.length<|(bZ r).snd.length)<|bz<|Int.ofNat_lt.mp O),by rw[map_append];exact aD,rfl⟩
theorem xu(c:aQ C ax)(H:n<=83){t s:aa}{T}(M:t.length<=8000000)(z:T<=t.length)(U:t.drop T=s)(u:∀X,cS s=.ok none->Ext h X->P .a5 X)(F:∀a X p,cS s=.ok (some p)->Ext h X->X a=some (.an [.S p.1,.ae ((t.length-p.2.length:Nat):Int)])->P (.Y a) X)(x:∀e X I,cS s=.error I->cq h X e {} I->E e X):
  C n none (.Y 307) [.S t,.ae T] P E h:=by
 refine c.fn rfl (af H)<|eZ (fun i:Nat=>t.length-i) (fun i J=>∃(X:ar),cQ (Ext h X) (i<=t.length) (dz (t.drop i)=dz s)<|J=⟨[some<|.S t,some<|.ae i],X⟩)
  (fun J=>bs fun(X:ar)(i:Nat)=>cQ (Ext h X) (i<=t.length) (t.drop i=dz s)<|J=⟨[some<|.S t,some<|.ae i],X⟩) ?_ ?_ (a:=T) ⟨h,Ext.rfl,z,a4 U,rfl⟩
 .rintro J ⟨X,i,R,aj,L,rfl⟩;refine c.len_str (af M)<|a9 (fun W=>?_) (fun W=>?_);rotate_left;have e:t.drop i=[]:=drop_of_length_le<|(az 0x10020584008101) W;rw[e]at L;exact u _ (by unfold cS;exact aW L rfl) R;refine(drop_cons (t:=t) (i:=i)<|(az 0x100206c0088111) W).elim fun e r q=>?_;have bx:=dv q;rw[q]at L;have N:cS s=if e=123 then(hs r).map some else if e=34 then(hW r).map some else .ok (some (bare (e::r))):=by unfold cS;exact aW L rfl
  refine de (eX q) cL ((az 0x40081bf424005c808108000000000000000fc888172) M W)<|a9 (fun O=>?_) (fun O=>?_);rotate_left;have O:e=123:=(List.cons.inj O).1;rw[if_pos O]at N;refine Hu (X:=i+1) c (am H) (af M) ((az 0x40081b01024428101) W) bx.2.2 (fun a V p K o G=>?_) fun D V I K y=>?_;exact F a _ p (N.trans<|a4 K) (R.trans o) G;exact x D V I (N.trans<|a4 K)<|y.pre R;have O:e≠123:=fun g=>O<|Z g rfl;rw[if_neg O]at N;refine de (eX q) cL ((az 0x40081bf424005c808108000000000000000fc888172) M W)<|a9 (fun V=>?_) (fun V=>?_);rotate_left;have V:e=34:=(List.cons.inj V).1;rw[if_pos V]at N;refine Hv (N:=i+1) c (am H) M ((az 0x40081b01024428101) W) bx.2.2 (fun a B p K A G=>?_) fun D B I K y=>?_;exact F a _ p (N.trans<|a4 K) (R.trans A) G;exact x D B I (N.trans<|a4 K)<|y.pre R;have V:e≠34:=fun g=>V<|Z g rfl;rw[if_neg V]at N;refine Hw (G:=i) c (am H) M aj q fun a B A G=>?_;exact F a _ _ N (R.trans A) G
 .rintro Q m w i ab l bm J ⟨X,R,aj,L,rfl⟩;refine c.len_str (af M)<|a9 (fun W=>?_) (fun W=>?_);have e:t.drop i=[]:=drop_of_length_le<|Int.ofNat_le.mp<|Int.not_lt.mp W;exact w ⟨X,i,R,aj,aW L<|Z e rfl,rfl⟩;refine(drop_cons (t:=t) (i:=i)<|Int.ofNat_lt.mp W).elim fun e r q=>?_;refine de (eX q) cL ((az nX) M W)<|ki c (am H) fun O v=>?_;refine ge (fun V=>?_) fun V=>?_;exact w ⟨O,i,R.trans v,aj,aW L<|Z q<|Z (so<|Bool.eq_false_iff.mpr V) rfl,rfl⟩;exact ab (i+1) _ (sub_succ_lt_self _ _<|Int.ofNat_lt.mp W) ⟨O,R.trans v,(Int.ofNat_lt.mp W),by rw[<-xj q V];exact L,rfl⟩
theorem s_split(c:aQ C ax)(x:n<=82){t}(w:t.length<=8000000)(r:∀a X l,cO t=.ok l->Ext h X->h a=none->X a=some (.ag<|l.map .S)->P (.Y a) X)(m:∀e X K,cO t=.error K->cq h X e {} K->E e X):
  C n none (.Y 314) [.S t] P E h:=by
 refine c.fn rfl (af x) ?_;intro o N;refine xu (T:=0) (s:=t) c (am x) w (zero_le _) rfl (fun M W H=>?_) (fun a M p W H I=>?_) fun e M K W y=>?_;refine eZ (fun i:Nat=>i) (fun O J=>J=⟨[some<|.S t,some<|.Y o,some .a5],M⟩) (fun J=>J=⟨[some<|.S t,some<|.Y o,some .a5],M⟩) ?_ ?_ (a:=0) rfl;rintro J rfl;exact r o M [] (gT W) ((aw N).trans H) N<|H _ _<|aD;rintro Q d u i ab b bm J rfl;exact u rfl
 .have len:=o4 W;refine eZ (fun a:Option (aa×aa)=>match a with|some a=>a.2.length+1|none=>0)
   (fun p J=>match p with
    |some p=>cP fun(X:ar)(a:Nat)(U:List aa)=>fm (Ext h X) (p.2<:+t) (p.2.length+U.length<t.length) (X a=some (.an [.S p.1,.ae ((t.length-p.2.length:Nat):Int)])) (X o=some (.ag<|U.map .S)) (cO t=(cO p.2).map (fun l=>U++p.1::l))<|J=⟨[some<|.S t,some<|.Y o,some<|.Y a],X⟩
    |none=>bs fun(X:ar)(l:List aa)=>cQ (Ext h X) (cO t=.ok l) (X o=some (.ag<|l.map .S))<|J=⟨[some<|.S t,some<|.Y o,some .a5],X⟩)
   (fun J=>bs fun(X:ar)(l:List aa)=>cQ (Ext h X) (cO t=.ok l) (X o=some (.ag<|l.map .S))<|J=⟨[some<|.S t,some<|.Y o,some .a5],X⟩) ?_ ?_ (a:=some p) ⟨M,a,[],(aw N).trans H,(mX W).2.2,by trivial,I,H _ _<|aD,(hX W),rfl⟩
  .rintro J ⟨X,l,L,R,T,rfl⟩;exact r o X l R L N T
  .rintro Q d u p ab b bm J k;cases p with
   |none=>obtain⟨X,l,L,R,T,rfl⟩:=k;exact u ⟨X,l,L,R,T,rfl⟩
   |some p=>
   obtain⟨X,a,U,L,B,A,I,T,R,rfl⟩:=k;refine eL T<|cC I (v:=.S p.1) rfl<|eM T (dr<|(aT 0x8085023e84800b901021e8480060908102) w A) ?_;have j:a≠o:=fun q=>by rw[q,T]at I;cases I
   have G:(X.set o (.ag (U.map V.S++[V.S p.1]))) a=some (.an [.S p.1,.ae ((t.length-p.2.length:Nat):Int)]):=(bl j).trans I;have z:(X.set o (.ag (U.map V.S++[V.S p.1]))) o=some (.ag ((U++[p.1]).map .S)):=Z map_append<|aD;refine cC G (v:=.ae ((t.length-p.2.length:Nat):Int)) rfl<|xu (s:=p.2) c (am x) w (sub_le t.length p.snd.length) (ss B) (fun F W D=>?_) (fun a2 F g W D G=>?_) (fun e F K W y=>?_);rw[gT W]at R;exact ab none _ (succ_pos _) ⟨F,U++[p.1],(L.own N _).trans D,R,D _ _ z,rfl⟩
   .have f:=o4 W;rw[hX W]at R;refine ab (some g) _ ((az 0x100204604885024028111) f) ⟨F,a2,U++[p.1],(L.own N _).trans D,(mX W).2.2.trans B,by simp;exact((bh 0x6204480800a0448409108c28112) A f),G,D _ _ z,?_,rfl⟩;rw[R];cases cO g.2 with|error e=>rfl|ok l=>simp[Except.map]
   .refine m e F K ?_<|y.pre<|L.own N _;exact R.trans<|a4<|kc W
 .exact m e M K (kc W)<|y.pre<|aw N
noncomputable def xv(m:Nat):aa:=if m=0 then gG else if m=1 then kD else if m=2 then gF else jD
theorem Hx{d b Z Y}:ch [92] d b Z Y=(2,b,Z,Y):=rfl
theorem Hy(c:aQ C ax)(hn:n<=85){e R}(he:e.length<=15000000)(k:∀W,Ext h W->P (.S<|xv<|dR e R) W):
  C n none (.Y 321) [.S e,.aP R] P E h:=by
 refine c.fn rfl (af hn) ?_;show run _ _ (cf<|[_,_,_,_,_,_,_]++_) _ _ _ _ _ _;refine stmts (fun J=>cP fun X r W=>ct (e=X::r) (Ext h W)<|J=⟨[some<|.S e,some<|.aP R,some<|.S [X],some<|.aP<|decide (X=123\/X=34),some<|.aP<|R&&decide (X=35),some<|.aP<|decide (X=123\/X=34)||(R&&decide (X=35)),some<|.aP false,some<|.ae 0,some<|.ae 0,none],W⟩) ?_ fun K2 f=>?_
 .rintro J ⟨X,dE,W,rfl,N,rfl⟩;generalize a7:decide (X=123\/X=34)=I;generalize a8:(R&&decide (X=35))=H;have F:dR (X::dE) R=(if(ch (X::dE) 0 I (I||H) false).1=2 then 2 else if(ch (X::dE) 0 I (I||H) false).2.1 then(if(ch (X::dE) 0 I (I||H) false).2.2.2&&!(ch (X::dE) 0 I (I||H) false).2.2.1 then 3 else 1)else if H then 1 else 0):=by simp only[dR,a7,a8]
  generalize hM:ch (X::dE) 0 I (I||H) false=M at F;show run _ _ (cf<|[_]++_) _ _ _ _ _ _;refine stmts (fun J=>ij fun(d:Nat)(b y D:Bool)(W:ar)(x:Option V)(z:V)=>ct (Ext h W) (M=(if 0<d then 2 else 0,b,y,D))<|J=⟨[some<|.S<|X::dE,some<|.aP R,some<|.S [X],some<|.aP b,some<|.aP H,some<|.aP y,some<|.aP D,some<|.ae d,some z,x],W⟩) ?_ fun K2 f=>?_
  .rintro J ⟨d,b,y,D,W,x,z,N,rfl,rfl⟩;refine a9 (fun L=>?_) fun L=>?_
   .have a0:¬0<d:=((aF 0x303400018141) L);simp only[a0,if_false]at F;rw[if_neg<|of_decide_eq_true rfl]at F;cases b with
    |false=>
     cases H with
     |false=>have:=k W N;rw[F]at this;exact this
     |true=>have:=k W N;rw[F]at this;exact this
    |true=>
     cases D with
     |false=>have:=k W N;rw[F]at this;exact this
     |true=>
      cases y with
      |false=>have:=k W N;rw[F]at this;exact this
      |true=>have:=k W N;rw[F]at this;exact this
   .have a0:0<d:=((aF 0x302e00018111) L);simp only[a0,if_true]at F;have:=k W N;rw[F]at this;exact this
  .have ez:∀W,M.1=2->Ext h W->P (.S gF) W:=fun W q x=>by have:=k W x;rw[F,if_pos q]at this;exact this
   refine eZ (fun a:Nat×Nat×Bool×Bool×Bool=>(X::dE).length-a.1) (fun a J=>bs fun(W:ar)(x:Option V)=>cQ (Ext h W) (a.1<=(X::dE).length) (M=ch ((X::dE).drop a.1) a.2.1 a.2.2.1 a.2.2.2.1 a.2.2.2.2)<|J=⟨[some<|.S<|X::dE,some<|.aP R,some<|.S [X],some<|.aP a.2.2.1,some<|.aP H,some<|.aP a.2.2.2.1,some<|.aP a.2.2.2.2,some<|.ae a.2.1,some<|.ae a.1,x],W⟩)
    (fun J=>ij fun(d:Nat)(b y D:Bool)(W:ar)(x:Option V)(z:V)=>ct (Ext h W) (M=(if 0<d then 2 else 0,b,y,D))<|J=⟨[some<|.S<|X::dE,some<|.aP R,some<|.S [X],some<|.aP b,some<|.aP H,some<|.aP y,some<|.aP D,some<|.ae d,some z,x],W⟩) ?_ ?_ (a:=(0,0,I,I||H,false)) ⟨W,none,N,zero_le _,hM.symm,rfl⟩
   .exact fT f
   rintro Q Kx hx ⟨i,d,b,y,D⟩ ab kb bm J ⟨W,x,N,aj,T,rfl⟩;dsimp only at aj T ab;have go:∀{i' d':Nat}{b' a3 a5:Bool}{G:ar}{x':Option V},i<i'->i'<=(X::dE).length->Ext h G->M=ch ((X::dE).drop i') d' b' a3 a5->Q .bL ⟨[some (.S (X::dE)),some (.aP R),some (.S [X]),some (.aP b'),some (.aP H),some (.aP a3),some (.aP a5),some (.ae d'),some (.ae i'),x'],G⟩:=fun a b x m=>ab (_,_,_,_,_) _ (Nat.sub_lt_sub_left (Nat.lt_of_lt_of_le a b) a) ⟨_,_,x,b,m,rfl⟩;refine c.len_str (af he)<|a9 (fun L=>?_) (fun L=>?_);have q:(X::dE).drop i=[]:=drop_of_length_le<|Int.ofNat_le.mp<|Int.not_lt.mp L;rw[q]at T;exact hx ⟨d,b,y,D,W,x,_,N,T,rfl⟩
   .obtain⟨g,r,q⟩:=drop_cons (t:=X::dE) (i:=i)<|Int.ofNat_lt.mp L;have bx:=dv q;rw[q]at T;refine de (eX q) cL ((az nW) he L)<|a9 (fun G=>?_) (fun G=>?_);rotate_left;have G:g=123:=(List.cons.inj G).1;rw[G,jc<|of_decide_eq_true rfl,if_pos rfl]at T;exact go (lt_succ_self _) (Int.ofNat_lt.mp L) N (bx.2.2.symm▸T);have G:g≠123:=fun q=>G<|Z q rfl;refine a9 (fun v=>?_) fun v=>?_;rotate_left
    .have v:g=125:=(List.cons.inj v).1;rw[v,jc<|of_decide_eq_true rfl,if_neg<|of_decide_eq_true rfl,if_pos rfl]at T;refine a9 (fun u=>?_) fun u=>?_
     .have a1:¬((d:Int)-1<0):=u;have U:d≠0:=fun q=>a1<|Z q<|bQ;rw[if_neg U]at T;exact ab (i+1,d-1,b,y,D) _ (by dsimp only;exact(sub_succ_lt_self _ _<|Int.ofNat_lt.mp L)) ⟨W,_,N,by dsimp only;exact(Int.ofNat_lt.mp L),by dsimp only;rw[bx.2.2];exact T,by dsimp only;exact Z (Int.ofNat_sub<|one_le_iff_ne_zero.mpr U) rfl⟩
     .have a1:(d:Int)-1<0:=u;rw[if_pos<|Nat.eq_zero_of_not_pos fun q=>absurd a1<|Int.not_lt.mpr<|Int.sub_nonneg_of_le<|Int.ofNat_le.mpr q]at T;exact bm _ _<|ez W (a4 T) N
    have v:g≠125:=fun q=>v<|Z q rfl;intro a l;refine ei (aD) rfl (aL) ?_;rw[show dh (.S [g]) [.S [93],.S [34]]=decide (g=93\/g=34) by simp[gp,gq]];refine a9 (fun u=>?_) fun u=>?_;rotate_left;have:g≠92:=fun e=>absurd (e▸u)<|aU;rw[jc this,if_neg G,if_neg v,if_pos u]at T;exact go (lt_succ_self _) (Int.ofNat_lt.mp L) (N.trans<|aw (o:=.an [.S [93],.S [34]]) l) (bx.2.2.symm▸T);intro a2 K;refine ei (aD) rfl (aL) ?_;have x2:=(N.trans<|aw (o:=.an [.S [93],.S [34]]) l).trans<|aw (o:=.an [.S [91],.S [36],.S [59],.S [92]]) K;rw[show dh (.S [g]) [.S [91],.S [36],.S [59],.S [92]]=decide (g=91\/g=36\/g=59\/g=92) by simp[gp,gq]];have j:∀{aa:ar},Ext h aa->g≠92->(g=91\/g=36\/g=59\/b9 g=true)->M=ch r d true true D:=fun O w B=>by rw[jc w,if_neg G,if_neg v,if_neg u,if_pos B]at T;exact T
    refine a9 (fun w=>?_) fun w=>?_
    .refine ki c (am hn) fun B x6=>?_;have x7:=x2.trans x6;refine ge (fun s=>?_) fun s=>?_
     .have p:g≠92:=fun e=>w<|.inr<|.inr<|.inr e;rw[jc p,if_neg G,if_neg v,if_neg u,if_neg (by
       rintro(q|q|q|q);exact w<|.inl q;exact w<|.inr<|.inl q;exact w<|.inr<|.inr<|.inl q
       .exact s q)]at T
      exact go (lt_succ_self _) (Int.ofNat_lt.mp L) x7 (bx.2.2.symm▸T)
     .have A:=j x7 (fun e=>w<|.inr<|.inr<|.inr e)<|.inr<|.inr<|.inr s;refine a9 (fun p=>?_) fun p=>?_;exact go (lt_succ_self _) (Int.ofNat_lt.mp L) x7 (bx.2.2.symm▸A);exact absurd (.inr<|.inr<|.inr<|(List.cons.inj p).1) w
    .refine a9 (fun B=>?_) fun B=>?_;have B:g≠92:=fun q=>B<|Z q rfl;have A:=j x2 B<|w.imp id fun q=>q.imp id fun q=>q.imp id fun q=>absurd q B;exact go (lt_succ_self _) (Int.ofNat_lt.mp L) x2 (bx.2.2.symm▸A)
     .have B:g=92:=(List.cons.inj B).1;subst B;refine c.len_str (af he)<|a9 (fun s=>?_) (fun s=>?_);rotate_left;have:r=[]:=length_eq_zero_iff.mp<|aW bx.2.2<|Z length_drop<|bR ((aT 0x881201105024220480503200908102) s<|bz<|(az 0x110240281811024028101) s)<|aF 0x18100;subst this;rw[Hx]at T;exact bm _ _<|ez _ (a4 T) x2;cases r with
      |nil=>exfalso;have:=bn List.length bx.2.2;rw[length_drop,length_nil]at this;exact s<|bn Nat.cast<|bR bx.2.1<|Nat.le_of_sub_eq_zero this
      |cons g2 r2=>have q1:=dv bx.2.2;rw[o5]at T;refine de (Z (show((i:Int)+1)=((i+1:Nat):Int) from rfl)<|eX bx.2.2) (aF gH) ((az p6) he q1.2.1)<|a9 (fun A=>?_) (fun A=>?_);rotate_left;have A:g2=10:=(List.cons.inj A).1;rw[if_pos A]at T;exact bm _ _<|ez _ (Z T rfl) x2;have A:g2≠10:=fun q=>A<|Z q rfl;replace T:=(if_neg A)▸T;refine de (by refine Z (show((i:Int)+1)=((i+1:Nat):Int) from rfl) ?_;exact eX bx.2.2) (aF gH) ((az p6) he q1.2.1) ?_;intro ad ac;refine ei (aD) rfl (aL) ?_;have x3:=x2.trans<|aw (o:=.an [.S [123],.S [125],.S [92]]) ac;refine Z (show dh (.S [g2]) [.S [123],.S [125],.S [92]]=decide (g2=123\/g2=125\/g2=92) by simp[gp,gq])<|a9 (fun p=>?_) (fun p=>?_);replace T:=(if_neg p)▸T;exact go (lt_succ_self _) ((az n7) q1.2.1) x3 (bx.2.2.symm▸T);replace T:=(if_pos p)▸T;exact go (lt_succ_of_lt<|lt_succ_self _) ((az 0x440900a04444098120128101) q1.2.1) x3 (q1.2.2.symm▸T)
 .cases e with
  |nil=>exact k h Ext.rfl
  |cons X r=>
   refine kg (c:=X) rfl ?_;intro a l;refine ei (aD) rfl (aL)<|Z (show dh (.S [X]) [.S [123],.S [34]]=decide (X=123\/X=34) by simp[gp,gq]) ?_;cases R with
   |false=>
    generalize hb:decide (X=123\/X=34)=b;cases b with
    |false=>intro a2 K;refine eY (aD) ?_;exact f ⟨X,r,_,rfl,(aw l).trans<|aw K,by refine Z hb ?_;rfl⟩
    |true=>intro a2 K;refine eY (aD) ?_;exact f ⟨X,r,_,rfl,(aw l).trans<|aw K,by refine Z hb ?_;rfl⟩
   |true=>
    have a6:∀x:Nat,decide ([X]=[x])=decide (X=x):=fun x=>by simp
    generalize hb:decide (X=123\/X=34)=b;cases b with
    |false=>intro a2 K;refine eY (aD) ?_;exact f ⟨X,r,_,rfl,(aw l).trans<|aw K,by refine Z hb<|aW (a6 35) ?_;rfl⟩
    |true=>intro a2 K;refine eY (aD) ?_;exact f ⟨X,r,_,rfl,(aw l).trans<|aw K,by refine Z hb<|aW (a6 35) ?_;rfl⟩
theorem Hz(d):(f5 d 0 [12,10,13,9,11]=-1/\kd d=none)\/bs fun(i:Nat)(v:Nat)=>cQ (f5 d 0 [12,10,13,9,11]=i) (i<5) ([102,110,114,116,118][i]?=some v) (kd d=some v):=by have:=xn d [(12,102),(10,110),(13,114),(9,116),(11,118)] 0;simp(iota:=false)only[Nat.zero_add]at this;exact this
theorem xw(c)(b):(ez c b).length<=2:=by
 unfold ez;split;exact Nat.le_refl _
 .split<;>exact aL
theorem HA(b):∀e:aa,(eg b e).length<=2*e.length:=by
 intro e;induction e with
 |nil=>exact Nat.le_refl _
 |cons c r ab=>have t1:=ab;have bA:=xw c b;unfold eg at*;simp(iota:=false)only[map_cons,flatten_cons,length_append,length_cons];exact((aT 0x4089081011026020420488502600828102) t1 bA)
theorem HB(e)(b):(quote e b).length<=2*e.length+2:=by unfold quote;by_cases Z:dR e b=0;rw[if_pos Z];exact(aF 0x10220204d008100);rw[if_neg Z];by_cases Y:dR e b=1;rw[if_pos Y,length_append,length_append];show 1+e.length+1<=_;rw[Nat.add_comm 1];exact Nat.add_le_add_right (Nat.le_mul_of_pos_left _<|succ_pos _) 2;rw[if_neg Y,length_append];have:=HA (decide (dR e b=2)) e;refine iteInduction (motive:=fun l:aa=>l.length+_<=_) (fun O=>((az 0x2204c04084088881340204a8101) this)) fun O=>?_;exact bp (Nat.le_of_eq<|Nat.zero_add _)<|(az 0x8813010210222204d008101) this
theorem xx:∀(l:List aa)(b:Bool),b3 (quoteAll b l)<=2*b3 l+2*l.length/\(quoteAll b l).length=l.length:=by
 intro l;induction l with
 |nil=>intro b;exact⟨Nat.le_refl _,rfl⟩
 |cons e r ab=>intro b;refine(ab false).elim fun Y Z=>?_;have:=HB e b;exact⟨((bV 0x408a0813462040840988813402042049050262102813400c28102) Y this),bR ((az 0x100204a04885024028101) Z)<|(az 0x100204e04805024428101) Z⟩
theorem HC(c:aQ C ax)(M:n<=88){d Z}(k:∀Q,Ext h Q->P (.S<|ez d Z) Q):C n U (.Y 328) [.S [d],.aP Z] P E h:=by
 refine c.fn rfl (af M) ?_;refine eK rfl ?_;refine xd ?_;rcases Hz d with⟨W,V⟩|⟨i,v,W,V,L,K⟩
 rotate_left
 .rw[W];refine de (gV.trans L) cL ((aF 0xa0c808118000000000000000fc808171) V) ?_;refine⟨aL,?_⟩;have:=k h Ext.rfl;simp(iota:=false)only[ez,K]at this;exact this
 rw[W];simp(iota:=false)only[ez,V]at k;intro a J;refine ei (aD) rfl (aL) ?_;have T:=aw (o:=.an [.S [93],.S [91],.S [36],.S [59],.S [32],.S [92],.S [34]]) J;rw[show dh (.S [d]) [.S [93],.S [91],.S [36],.S [59],.S [32],.S [92],.S [34]]=decide (d=93\/d=91\/d=36\/d=59\/d=32\/d=92\/d=34) by simp[gp,gq]];refine a9 (fun X=>?_) fun X=>?_
 .cases Z with|false=>have:=k _ T;rw[if_neg fun q=>q.elim X fun r=>nomatch r.1]at this;exact this|true=>intro I O;refine ei (aD) rfl (aL) ?_;have N:=T.trans<|aw (o:=.an [.S [123],.S [125]]) O;rw[show dh (.S [d]) [.S [123],.S [125]]=decide (d=123\/d=125) by simp[gp,gq]];refine a9 (fun R=>?_) fun R=>?_;have:=k _ N;rw[if_neg fun q=>q.elim X fun r=>R r.2]at this;exact this;refine⟨aL,?_⟩;have:=k _ N;rw[if_pos<|.inr ⟨rfl,R⟩]at this;exact this
 .refine⟨aL,?_⟩;have:=k _ T;rw[if_pos<|.inl X]at this;exact this
theorem HD(c:aQ C ax)(F:n<=84){e X}(L:e.length<=4000000)(k:∀W,Ext h W->P (.S<|quote e X) W):C n none (.Y 336) [.S e,.aP X] P E h:=by
 refine c.fn rfl (af F) ?_;refine Hy c (am F) (af L) fun D O=>?_;have p:quote e X=if dR e X=0 then e else if dR e X=1 then[123]++e++[125]else(if X&&decide (e.head?=some 35)then[92]else[])++eg (decide (dR e X=2)) e:=rfl;rw[p]at k;by_cases G:dR e X=0;rw[if_pos G]at k;exact Z G<|k D O;rw[if_neg G]at k;by_cases K:dR e X=1
 .rw[if_pos K]at k;rw[K];refine⟨by simp;exact((aF 0x7a120058808108000001920204a8101) L),?_⟩;refine⟨by simp;exact af L,?_⟩;exact k D O
 rw[if_neg K]at k;have ne:e≠[]:=by rintro rfl;exact K rfl
 have m:xv (dR e X)=if dR e X=2 then gF else jD:=(if_neg G).trans<|if_neg K;rw[m];have t1:¬((if dR e X=2 then gF else jD)=gG):=by split<;>exact aU
 have bA:¬((if dR e X=2 then gF else jD)=kD):=by split<;>exact aU
 have t3:decide ((if dR e X=2 then gF else jD)=gF)=decide (dR e X=2):=by
  split
  .rename_i q;simp[q]
  .rename_i q;simp[q]
 generalize(if dR e X=2 then gF else jD)=w at t1 bA t3⊢;generalize decide (dR e X=2)=U at t3 k;refine a9 (fun N=>?_) fun N=>absurd N t1;refine a9 (fun N=>?_) fun N=>absurd N bA;intro o l;have u:D o=none:=l;have Q:h o=none:=O.fresh u;show run _ _ (cf<|[_]++_) _ _ _ _ _ _;refine stmts (fun J=>∃(W:ar),ct (Ext h W) (W o=some (.ag<|(if X&&decide (e.head?=some 35)then[[92]]else[]).map V.S))<|J=⟨[some<|.S e,some<|.aP X,some<|.S w,some<|.Y o,none],W⟩) ?_ fun i B=>?_
 .rintro J ⟨W,I,R,rfl⟩;refine dI (fun A J=>er fun(r:aa)(T:List aa)(W:ar)(x:Option V)=>fm (A=r.map (fun c=>V.S [c])) (Ext h W) (W o=some (.ag<|T.map .S)) (T.length+r.length<=e.length+1) (b3 T+2*r.length<=2*e.length+1) (T.flatten++eg U r=(if X&&decide (e.head?=some 35)then[92]else[])++eg U e)<|J=⟨[some<|.S e,some<|.aP X,some<|.S w,some<|.Y o,x],W⟩) ?_ ?_ ⟨e,_,W,none,rfl,I,R,by split<;>simp;exact(aF 0x2048040204a8100),by split<;>simp[b3];exact(aF 0x2048081340204e04a8100),by split<;>exact nil_append _,rfl⟩
  .rintro v ad g ab f bm J ⟨r,T,W,x,t,I,R,M,H,z,rfl⟩;cases r with
   |nil=>trivial
   |cons d r=>
    cases t;refine eL R ?_
    conv=>whnf
    rw[t3];refine HC c (am F) fun N s=>?_;refine eM (s _ _ R) (dr<|(aT 0x8120140920842810f42400b101021e8480060888102) L M) ?_;have:=xw d U;refine(ab _ trivial ⟨r,T++[ez d U],_,_,rfl,(I.trans s).own Q _,by rw[map_append];exact aD,by simp at M⊢;exact((aT 0x812414091080281081241088120128101) M),by simp[b3]at H⊢;exact((bh 0x408988108124204d40910a04c028108124204d08813300128102) H this),?_,rfl⟩);rw[<-z];unfold eg;simp
  .rintro J ⟨r,T,W,x,t,I,R,M,H,z,rfl⟩;cases r with|cons d r=>trivial|nil=>refine eK rfl ?_;refine kh R (kk _) (by simp at M H⊢;exact((aT 0x204808134420420480422043d09002c40608200000064c09108828103) L M H)) ?_;have:=k W I;rw[<-z]at this;rw[pg];rw[show eg U []=[] from rfl,append_nil]at this;exact this
 .cases X with
  |false=>exact B ⟨_,O.own Q _,aD,rfl⟩
  |true=>
   cases e with
   |nil=>exact absurd rfl ne
   |cons j r=>refine kg (c:=j) rfl ?_;refine a9 (fun y=>?_) fun y=>?_;refine B ⟨_,O.own Q _,?_,rfl⟩;exact Z (if_neg<|by simpa using y)<|aD;refine eL (aD) ?_;refine eM (aD) (zero_le _) ?_;refine B ⟨_,(O.own Q<|.ag []).own Q _,?_,rfl⟩;exact Z (if_pos<|by simpa using y)<|aD
theorem su:∀{l:List aa}{e:aa},e∈l->e.length<=b3 l:=by
 intro l;induction l with
 |nil=>intros;trivial
 |cons x l ab=>
  intro e h;rcases bU h with q|q
  .subst q;exact le_add_right _ _
  .have:=ab q;exact((aT 0x4008101041008101) this)
theorem ph(a b):b3 (a++b)=b3 a+b3 b:=by simp[b3]
theorem na(a)(b):b3 (a::b)=a.length+b3 b:=by rfl
abbrev bk:=List<|aa×aa
noncomputable def d6:bk->List aa|[]=>[]|(k,v)::r=>k::v::d6 r
theorem sv:d6 []=[]:=by intros;rfl
theorem sw:∀(k v:aa)(r:List (aa×aa)),d6 ((k,v)::r)=k::v::d6 r:=by intros;rfl
noncomputable def br(d:bk):List (aa×V):=d.map fun p=>(p.1,.S p.2)
noncomputable def fA(d:bk):List aa->bk|k::v::r=>fA (put k v d) r|_=>d
noncomputable def xy:cb:=⟨tu,[cD,dX,iQ]⟩
def hy(e:cb):cb:=⟨if mb [108,105,115,116,32] e.msg then hH++e.msg.drop 4 else if mc [32,108,105,115,116] e.msg then e.msg.take (e.msg.length-4)++hH else e.msg,
 [cD,dX,iQ,e.d5.getD 3 []]⟩
def a0(t:aa):Except cb bk:=match cO t with
 |.error e=>.error<|hy e
 |.ok l=>if l.length%2=1 then .error xy else .ok (fA [] l)
def bg(d:bk):aa:=dm<|d6 d
noncomputable def lx(k:aa):cb:=⟨[107,101,121,32,34]++k++tx,[cD,ie,[68,73,67,84],k]⟩
theorem dJ(k):∀d:bk,aH k (br d)=(aH k d).map .S
 |[]=>rfl
 |(a,b)::r=>by have:=dJ k r;unfold br at*;simp only[map_cons,l8,jT];split;rfl;exact this
theorem fU(k v):∀d:bk,put k (.S v) (br d)=br (put k v d):=by
 intro d;induction d with
 |nil=>exact rfl
 |cons pp r ab=>
  obtain⟨a,b⟩:=pp;have:=ab;unfold br at*;simp only[map_cons,l9,fL];split;rfl
  .simp only[map_cons,this]
theorem xz(k):∀d:bk,del k (br d)=br (del k d):=by
 intro d;induction d with
 |nil=>exact rfl
 |cons pp r ab=>
  obtain⟨a,b⟩:=pp;have:=ab;unfold br at*;simp only[map_cons,ma,hd];split;rfl
  .simp only[map_cons,this]
theorem fB(d):(br d).length=d.length:=length_map ..
theorem ly{aq}(k)(v):∀d:List (aa×aq),(put k v d).length<=d.length+1:=by
 intro d;induction d with
 |nil=>exact succ_pos _
 |cons pp r ab=>obtain⟨a,b⟩:=pp;have:=ab;rw[fL];split<;>simp<;>exact this
theorem lz(c:aQ C ax)(H:n<=82){a l}(G:h a=some (.ag<|l.map .S))(Q:2*b3 l+4*l.length<=8000000)(k:∀W,Ext h W->P (.S<|dm l) W):C n none (.Y 343) [.Y a] P E h:=by
 refine c.fn rfl (af H) ?_;intro o O;refine hx (aw (o:=.ag []) O _ _ G)<|(xx l true).elim fun B F=>?_;have M:∀(X:List aa)(W:ar),Ext h W->X=quoteAll true l->P (.S (eH [32] X)) W:=fun X W x q=>Z q<|k W x;refine dI (fun L J=>er fun(r X:List aa)(W:ar)(x:Option V)=>fm (L=r.map V.S) (Ext h W) (W o=some (.ag<|X.map .S)) (X++quoteAll (decide (X=[])) r=quoteAll true l) (2*b3 r<=8000000) (X.length<=l.length)<|J=⟨[some<|.Y a,some<|.Y o,x],W⟩) ?_ ?_ ⟨l,[],_,none,rfl,aw O,aD,rfl,((az 0x7a12002e44406c0409a810f424005c808138101) Q),zero_le _,rfl⟩
 .rintro v ad z ab w bm J ⟨r,X,W,x,D,N,U,T,K,A,rfl⟩;cases r with
  |nil=>trivial
  |cons e r=>
   cases D;have R:X.length+1<=l.length:=by have:=bn List.length T;rw[F]at this;simp only[Gi,Gj,length_append,length_cons]at this;exact((aT 0x84091080281221024028101) this)
   refine eL U<|c.len_list U (dr<|(aT 0x22049050187a12002e44406c0409a810800000192420302) Q R) ?_
   conv=>whnf
   rw[show decide (((X.map V.S).length:Int)=0)=decide (X=[]) by cases X<;>simp;exact(fun{x y}=>PyProof.Rows.bi_ine.mp) rfl];refine HD c (am H) ((az 0x3d09001722002813810f42400b1010201) K) fun u I=>?_;refine eM (I _ _ U) (dr<|(aT 0x110248280c3d0900172220360204d4087a1200182420302) Q R) ?_;refine(ab _ ((N.trans I).own O _ _ _ G) ⟨r,X++[quote e<|decide (X=[])],_,_,rfl,(N.trans I).own O _,by rw[map_append];exact aD,?_,((az 0x3d09001722002813810f424005c888138101) K),by simp;exact R,rfl⟩);exact aW T<|Z (show decide (X++[quote e<|decide (X=[])]=[])=false by simp) (append_assoc ..)
 .rintro J ⟨r,X,W,x,D,N,U,T,K,A,rfl⟩;cases r with|cons d r=>trivial|nil=>rw[show quoteAll (decide (X=[])) []=[] from rfl,append_nil]at T;exact eK rfl<|kh U (kk _) (Z T<|Z F<|(aT 0x2204c0409a21021e84800b91101b01026a04200000064c0910a04c828102) Q B)<|M X W N T
theorem pi:∀d:bk,(d6 d).length=2*d.length:=by
 intro d;induction d with
 |nil=>exact rfl
 |cons pp r ab=>obtain⟨a,b⟩:=pp;have:=ab;exact(bR ((az 0x44098081281221409c098120128101) this)<|(az 0x440980813813024025024428138101) this)
theorem xA:∀(a b:bk),d6 (a++b)=d6 a++d6 b:=by
 intro a;induction a with
 |nil=>intro b;exact rfl
 |cons pp r ab=>obtain⟨k,v⟩:=pp;intro b;simp only[cons_append,sv,sw,ab b]
theorem pj{aq d}{p:aa×aq}(aC:(d.map (·.1)).Nodup)(h:p∈d):aH p.1 d=some p.2:=by
 induction d with
 |nil=>cases h
 |cons q r ab=>have Z:=nodup_cons.mp aC;exact(bU h).elim (fun e=>e▸if_pos rfl) fun g=>(if_neg fun e:q.1=p.1=>Z.1<|mem_map.mpr ⟨p,g,e.symm⟩).trans<|ab Z.2 g
theorem xB{aq k x}{v:aq}{d}(h:x∈(put k v d).map (·.1)):x=k\/x∈d.map (·.1):=by
 induction d with
 |nil=>exact .inl<|mem_singleton.mp h
 |cons p r ab=>obtain⟨a,b⟩:=p;by_cases q:a=k;rw[show put k v ((a,b)::r)=(a,v)::r from(if_pos q).trans (q▸rfl)]at h;exact .inr h;rw[show put k v ((a,b)::r)=(a,b)::put k v r from if_neg q]at h;exact(bU h).elim (fun e=>.inr (e▸.head _)) fun g=>(ab g).imp id<|.tail _
theorem ek{aq k}{v:aq}{d}(aC:(d.map (·.1)).Nodup):((put k v d).map (·.1)).Nodup:=by
 induction d with
 |nil=>exact nodup_cons.mpr ⟨(fun h=>nomatch h),nodup_nil⟩
 |cons p r ab=>obtain⟨a,b⟩:=p;by_cases q:a=k;exact Z (show put k v ((a,b)::r)=(a,v)::r from(if_pos q).trans (q▸rfl)) aC;have Y:=nodup_cons.mp aC;exact Z (show put k v ((a,b)::r)=(a,b)::put k v r from if_neg q)<|nodup_cons.mpr ⟨fun h=>(xB h).elim q Y.1,ab Y.2⟩
theorem nb{aq:Type}{P:List aq->Prop}(hz:P [])(zq1:∀x,P [x])(zq2:∀k v r,P r->P (k::v::r))(l:List aq):P l:=by
 suffices key:P l/\∀x,P (x::l) from key.1
 induction l with
 |nil=>exact⟨hz,zq1⟩
 |cons c s ab=>exact⟨ab.2 c,fun x=>zq2 x c s ab.1⟩
theorem nc{t d}(h:a0 t=.ok d):∃l,cO t=.ok l/\d=fA [] l:=by
 unfold a0 at h;rcases q:cO t with e|l
 .rw[q]at h;trivial
 .rw[q]at h;by_cases c:l.length%2=1;exact nomatch (if_pos c).symm.trans h;exact⟨l,rfl,(Except.ok.inj<|(if_neg c).symm.trans h).symm⟩
theorem HE(l):∀{d:bk},(d.map (·.1)).Nodup->((fA d l).map (·.1)).Nodup:=by
 induction l using nb with
 |hz=>exact id
 |zq1 x=>exact id
 |zq2 k v r ab=>exact fun aC=>ab<|ek aC
theorem cG{t d}(h:a0 t=.ok d):(d.map (·.1)).Nodup:=
 (nc h).elim fun l e=>Z e.2<|HE l .nil
theorem g0(c:aQ C ax)(H:n<=81){a ep d}(M:h a=some (.av (br d) ep))(aC:(d.map (·.1)).Nodup)(L:2*b3 (d6 d)+8*d.length<=8000000)(k:∀W,Ext h W->P (.S<|bg d) W):C n none (.Y 364) [.Y a] P E h:=by
 refine c.fn rfl (af H) ?_;intro o U;refine gY (aw (o:=.ag []) U _ _ M)<|dI (fun K J=>er fun(pre r:bk)(W:ar)(x:Option V)=>eE (K=(br r).map (fun e=>V.S e.1)) (d=pre++r) (Ext h W) (W o=some (.ag<|(d6 pre).map .S))<|J=⟨[some<|.Y a,some<|.Y o,x],W⟩) ?_ ?_ ⟨[],d,_,none,rfl,rfl,aw U,aD,rfl⟩
 .rintro v ad B ab A bm J ⟨pre,r,W,x,G,X,Q,T,rfl⟩;cases r with
  |nil=>trivial
  |cons p r=>
   obtain⟨R,I⟩:=p;cases G;have F:=pj (p:=(R,I)) aC<|Z X cw;have O:(d6 pre).length+2<=2*d.length:=by rw[pi,X];exact Z length_append<|az 0x10244200a04e0440409a8100
   refine eL T<|eM T (dr<|(aT 0x4409c089050187a12002e4440460204d4087a1200182420302) L O) ?_;have N:(W.set o (.ag ((d6 pre).map V.S++[V.S R]))) o=some (.ag ((d6 pre).map V.S++[V.S R])):=aD;refine eL N ?_;refine dA (es:=br d) (e:=ep) (v:=.S I) ((Q.own U _) _ _ M) (by rw[dJ,F];rfl) ?_;refine eM N (by simp;exact((aT 0x4409c089050187a12002e4440460204d4087a11ff982420302) L O)) ?_;refine(ab _ (((Q.own U<|.ag<|(d6 pre).map V.S++[V.S R]).own U _) _ _ M) ⟨pre++[(R,I)],r,_,_,rfl,by rw[X];exact append_cons ..,(Q.own U<|.ag<|(d6 pre).map V.S++[V.S R]).own U _,?_,rfl⟩);rw[xA,map_append];refine(aD).trans ?_;simp[sv,sw]
 .rintro J ⟨pre,r,W,x,G,X,Q,T,rfl⟩;cases r with|cons p r=>trivial|nil=>rw[append_nil]at X;subst X;refine lz c (am H) T (by rw[pi];exact((az 0x7a12002e4440460204d4087a12002e44409c06c0409a8101) L)) fun z D=>?_;exact k _<|Q.trans D
set_option tactic.hygienic true in
theorem sx{t}:∀{Z:cb},cO t=.error Z->Z.msg.length<=200/\er fun a b c d=>Z.d5=[a,b,c,d]:=by
 have Y:∀{w s:aa}{Z:cb},w.length<=100->et w s=some Z->Z.msg.length<=200/\er fun a b c d=>Z.d5=[a,b,c,d]:=by
  intro w s Z U h;cases s with
  |nil=>trivial
  |cons c r=>
   by_cases W:b9 c=true;rw[xq W]at h;trivial
   .rw[xr W]at h;obtain rfl:=a2 h;refine⟨?_,_,_,_,_,rfl⟩;have V:(((c::r).take 20).takeWhile (fun c=>!b9 c)).length<=20:=bp (takeWhile_prefix _).length_le<|length_take_le _ _;simp only[length_append,length_cons,length_nil];exact((az 0xa05222043207202043204181302604c0981302604c0981302604c0981302604c098130240149249249249248440981302604c0981302604c0981302604c0981200a49249249240204c0981302604c0981302604c0981302604c09813024014924924924924928102) U V)
 have fin:∀{s:aa}{Z:cb},cS s=.error Z->Z.msg.length<=200/\er fun a b c d=>Z.d5=[a,b,c,d]:=by
  intro s Z h;unfold cS at h;split at h;trivial
  .rename_i c r _;split at h
   .unfold hs at h;rcases q:dd 1 r with _|k
    .rw[q]at h;obtain rfl:=Except.error.inj h;exact⟨aL,_,_,_,_,rfl⟩
    .
     rw[q]at h;dsimp only at h;split at h;rename_i e X;obtain rfl:=Except.error.inj h;exact Y (aL) X;trivial
   .split at h
    .unfold hW at h;rcases q:quoted r with _|k
     .rw[q]at h;obtain rfl:=Except.error.inj h;exact⟨aL,_,_,_,_,rfl⟩
     .
      rw[q]at h;dsimp only at h;split at h;rename_i e X;obtain rfl:=Except.error.inj h;exact Y (aL) X;trivial
    .trivial
 induction t using rS with
 |case1 s e h=>intro Z q;rw[kc h]at q;obtain rfl:=Except.error.inj q;exact fin h
 |case2 s h=>intro Z q;rw[gT h]at q;trivial
 |case3 s p h ab=>
  intro Z q;rw[hX h]at q;rcases g:cO p.2 with e|l
  .rw[g]at q;obtain rfl:=Except.error.inj q;exact ab g
  .rw[g]at q;trivial
theorem HF{n k}(h:k<=n)(Y:0<k):clip n (-(k:Int))=n-k:=by unfold clip;exact Z (if_pos<|Int.neg_neg_of_pos<|Int.ofNat_lt.mpr Y)<|Z (show-(k:Int)+n=((n-k:Nat):Int) from(Int.add_comm _ _).trans (Int.ofNat_sub h).symm)<|m8<|sub_le n k
theorem HG(c:aQ C ax)(J:n<=86){e d G X}(p:xl h e d G X)(O:X.msg.length<=200)(N:er fun a b c d=>X.d5=[a,b,c,d])(k:∀M I,cq h I M {} (hy X)->P (.Y M) I):C n U (.Y 350) [.Y e] P E h:=by
 obtain⟨D,B,A,Q,N⟩:=N;obtain⟨q,x,R,L⟩:=p.dict;rw[N]at L;have H:hy X=⟨(hy X).msg,[cD,dX,iQ,Q]⟩:=by unfold hy;exact Z N rfl
 have mk:∀w:aa,w=(hy X).msg->∀(a:Nat),h a=none->C (n+1) U (.Y 139) [.S w,.Y a] P E (h.set a (.an [.S cD,.S dX,.S iQ,.S Q])):=fun w F a T=>by refine jn c (am J) (d5:=[cD,dX,iQ,Q]) (aD) fun M W y=>k M W ?_;exact Z H<|aW F<|y.pre<|aw T
 refine c.fn rfl (af J) ?_;refine gy p.at_ R (v:=.S X.msg) rfl rfl ja ?_;refine eK rfl ?_;refine lr ?_;refine ge (fun V=>?_) fun V=>?_
 .have V:mb [108,105,115,116,32] X.msg=false:=by simpa using V
  refine eK rfl ?_;refine G4 ?_;refine ge (fun W=>?_) fun W=>?_
  .have W:mc [32,108,105,115,116] X.msg=false:=by simpa using W
   refine gy p.at_ R (v:=.Y q) rfl rfl eU ?_;refine cC L (v:=.S Q) rfl ?_;intro a T;exact mk X.msg (by unfold hy;exact Z V<|Z W rfl) a T
  .skip;have K:5<=X.msg.length:=by unfold mc at W;simp at W;exact W.1
   refine fz (t:=X.msg.take<|X.msg.length-4) (by show some ((X.msg.take<|clip X.msg.length<|-4).drop 0)=_;exact Z (show clip X.msg.length (-4)=X.msg.length-4 from HF (k:=4) (le_of_succ_le K) (succ_pos _)) rfl) (af O) rfl (by rfl) ?_;refine⟨by simp;exact af O,?_⟩;refine gy p.at_ R (v:=.Y q) rfl rfl eU ?_;refine cC L (v:=.S Q) rfl ?_;intro a T;exact mk _ (by unfold hy;exact Z V<|Z W rfl) a T
 .skip;have K:5<=X.msg.length:=by unfold mb at V;have:=bn List.length<|aU V;simp at this;exact((az 0x400810a0c80813114198102) this<|Nat.min_le_right 5 X.msg.length)
  refine fz (t:=X.msg.drop 4) (Z (show(4:Int)=((4:Nat):Int) from rfl)<|lu<|(aF 0x1419810010198101) K) (af O) (by rfl) rfl ?_;refine⟨by simp;exact((az 0x2032214096408202042000000648880ca8102) O<|bz<|(aF 0x1419810010198101) K),?_⟩;refine gy p.at_ R (v:=.Y q) rfl rfl eU ?_;refine cC L (v:=.S Q) rfl ?_;intro a T;exact mk _ (by unfold hy;exact Z V rfl) a T
end
end
theorem pk{s l}(h:cO s=.ok l):(cS s=.ok none/\l=[])\/bs fun p Z=>ct (cS s=.ok (some p)) (cO p.2=.ok Z) (l=p.1::Z):=by
 rcases q:cS s with e|o
 .rw[kc q]at h;trivial
 .
  cases o with
  |none=>rw[gT q]at h;obtain rfl:=Except.ok.inj h;exact .inl ⟨rfl,rfl⟩
  |some p=>
   rw[hX q]at h;rcases g:cO p.2 with e|Z
   .rw[g]at h;trivial
   .rw[g]at h;obtain rfl:=Except.ok.inj h;exact .inr ⟨p,Z,rfl,g,rfl⟩
theorem lA{t}:∀{l:List aa},cO t=.ok l->b3 l<=t.length/\l.length<=t.length:=by
 induction t using rS with
 |case1 s e h=>intro l q;rcases pk q with⟨a,rfl⟩|⟨p,Z,a,_⟩<;>rw[h]at a<;>trivial
 |case2 s h=>
  intro l q;rcases pk q with⟨a,rfl⟩|⟨p,Z,a,_⟩
  .exact aU
  .rw[h]at a;cases a
 |case3 s p h ab=>
  intro l q;rcases pk q with⟨a,rfl⟩|⟨W,Z,a,b,rfl⟩
  .exact aU
  .rw[h]at a;cases a;obtain⟨Y,X⟩:=ab b;have⟨t1,bA,_⟩:=mX h;exact⟨((bh 0xc0820a0404008103000828102) Y t1),((aT 0x202204440081021024028102) X bA)⟩
section
open PySem
theorem xC(lo k:Nat):fs (lo:Int) ((lo+1+k:Nat):Int) 2=k/2+1:=by have e:((lo+1+k:Nat):Int)-lo-1=(k:Int):=(Int.sub_sub _ _ _).trans ((bn (·-((lo:Int)+1))<|Int.add_comm ((lo:Int)+1) k).trans<|Int.add_sub_cancel _ _);unfold fs;exact Z (if_pos<|by exact bQ)<|Z (if_pos<|Int.ofNat_lt.mpr<|Nat.lt_add_right k<|lt_succ_self lo)<|Z e rfl
theorem pl{lo len:Nat}(h:len<=lo):fa 2 lo (fs lo len 2)=[]:=by
 have:fs (lo:Int) len 2=0:=by exact(if_pos<|by exact bQ).trans<|if_neg<|Int.not_lt.mpr<|Int.ofNat_le.mpr h
 exact a4 this
theorem pm{lo len:Nat}(h:lo<len):fa 2 lo (fs lo len 2)=.ae lo::fa 2 ((lo+2:Nat):Int) (fs ((lo+2:Nat):Int) len 2):=by
 refine(Nat.exists_eq_add_of_lt h).elim fun k Y=>?_;obtain rfl:=Y;rw[Nat.add_right_comm,xC];show V.ae lo::fa 2 ((lo+2:Nat):Int) (k/2)=_
 match k with
 |0=>exact Z (pl<|le_succ _) rfl
 |1=>exact Z (pl<|Nat.le_refl _) rfl
 |k+2=>rw[show lo+1+(k+2)=(lo+2)+1+k from(Nat.add_right_comm (lo+1) 2 k).symm,xC,add_div_right k<|by exact succ_pos _]
theorem xD{l:List aa}{i}(h:i<l.length)(Y:(l.length-i)%2=0):cP fun k v r=>cQ (l.drop i=k::v::r) (l.drop (i+2)=r) (l[i]?=some k) (l[i+1]?=some v):=by obtain⟨k,r,xE⟩:bs fun k r=>l.drop i=k::r:=⟨_,_,drop_eq_getElem_cons h⟩;obtain⟨v,s,jb⟩:bs fun k r=>l.drop (i+1)=k::r:=⟨_,_,drop_eq_getElem_cons<|Nat.lt_of_le_of_ne h fun q=>absurd Y (by rw[<-q];show¬(i+1-i)%2=0;rw[Nat.add_sub_cancel_left];exact succ_ne_zero _)⟩;have a:=dv xE;have b:=dv jb;exact⟨k,v,s,by exact Z xE<|aW a.2.2<|Z jb rfl,b.2.2,a.1,b.1⟩
theorem kl{l:List aa}{i:Nat}{k}(h:l[i]?=some k):c9 (i:Int) (l.map V.S)=some (.S k):=by exact Z gV<|Z List.getElem?_map<|Z h rfl
section
variable{C:eW}{ax:Nat->Option (List V)}{n:Nat}{U:Option Nat}{P:a3 V}{E:a3 Nat}{h:ar}
theorem bv{h:ar}{a b o}(Z:h a=none)(Y:h b=some o):b≠a:=fun q=>by subst q;rw[Z]at Y;trivial
theorem cq.ctx{h Y e W c V}(y:cq h Y e c W){d}(p:Y e=some (.bD 84 d c)):cq h (Y.set e<|.bD 84 d V) e V W:=by
 obtain⟨x,f,U,T,q⟩:=y;have:U=d:=by have:=q.at_;rw[p]at this;cases this;rfl
 subst this;obtain⟨M,Q,P,S,R⟩:=q;have X:∀{b:Nat}{o:dM},Y b=some o->(∀C d c,o≠.bD C d c)->b≠e:=fun Z O N=>by subst N;rw[p]at Z;obtain rfl:=a2 Z;exact O _ _ _ rfl
 refine⟨fun b o Z=>(bl (fun q=>by subst q;rw[f]at Z;trivial)).trans<|x b o Z,f,U,T,aD,Q,P,(bl<|X S<|by simp).trans S,(bl<|X R<|by simp).trans R⟩
theorem xF{l:List aa}{i:Nat}{k}(h:l[i+1]?=some k):c9 ((i:Int)+1) (l.map V.S)=some (.S k):=by exact Z (show(i:Int)+1=((i+1:Nat):Int) from rfl)<|kl h
theorem dS(c:aQ C ax)(G:n<=81){t}(R:t.length<=8000000)(kv:∀a X d ep,a0 t=.ok d->Ext h X->h a=none->X a=some (.av (br d) ep)->P (.Y a) X)(g:∀e X w a7,a0 t=.error w->cq h X e a7 w->E e X):
  C n none (.Y 357) [.S t] P E h:=by
 refine c.fn rfl (af G) ?_;refine s_split c (am G) R (fun a u l N F ha Q=>?_) fun e u w N y=>?_
 .have hsz:=(lA N).2;refine c.len_list Q (by exact dr<|(az 0x22043d09001720204200000064888102) R hsz) ?_;refine⟨by exact aU,?_⟩;refine a9 (fun T=>?_) fun T=>?_
  .rw[length_map]at T;have D:l.length%2=0:=by exact(mod_two_eq_zero_or_one _).resolve_right fun q=>T<|(Int.fmod_eq_emod_of_nonneg _<|by exact bQ).trans<|bn Int.ofNat q
   intro e b B;have f:a≠b:=fun q=>by subst q;rw[Q]at B;trivial
   have s:Ext u (u.set b (.av [] e)):=aw B;refine c.len_list (s _ _ Q) (by exact dr<|(az 0x22043d09001720204200000064888102) R hsz) ?_;refine c.eF (by exact aU) (by exact aL) (by exact bQ) (by exact bQ) (by exact(aF n4)) (by exact Z (length_map ..)<|(az 0x22043d090017202042000000000000000f4888172) R hsz) fun r m=>?_;refine m7 (aD) ?_;have a1:b≠r:=fun q=>by subst q;rw[ar.at]at m;trivial
   rw[length_map];have U:a0 t=.ok (fA [] l):=by unfold a0;rw[N];exact(if_neg<|(fun{n}=>mod_two_ne_one.mpr) D)
   refine dI (fun k J=>gJ fun(i:Nat)(d:bk)(ep:Nat)(X:ar)(x:Option V)=>kQ (k=fa 2 i (fs i l.length 2)) (i<=l.length) (i%2=0) (fA d (l.drop i)=fA [] l) (d.length<=i) (Ext h X) (X a=some (.ag<|l.map .S)) (X b=some (.av (br d) ep))<|J=⟨[some<|.S t,some<|.Y a,none,some<|.Y b,x],X⟩) ?_ ?_ ⟨0,[],e,_,none,rfl,by exact(aF 0x18100),rfl,rfl,zero_le _,(F.trans s).trans<|aw (o:=.eF 0 l.length 2) m,(aw m) _ _<|s _ _ Q,(bl a1).trans<|aD,?_⟩
   .rintro v ad Kb ab kb bm J ⟨i,d,ep,X,x,M,aj,L,A,K,j,O,I,rfl⟩;rcases Nat.lt_or_ge i l.length with W|H
    .rw[pm W]at M;cases M;obtain⟨kk,vv,rr,q1,q2,q3,q4⟩:=xD W<|sub_mod_eq_zero_of_mod_eq<|D.trans L.symm;refine eA O (xF q4) (by exact(aF gH)) (by exact((aT 0x4108110022043d0900172020420000000000000003f3024828173) R hsz W)) ?_;refine eA O (kl q3) cL (by exact((aT 0x1042044008810f424005c808108000000000000000fc908173) R hsz W)) ?_;refine eB I (by exact dr<|(bh 0x8310226084080011021e84800b901021e8480060908104) R hsz K W) fun e=>?_;refine(ab _ trivial ⟨i+2,put kk vv d,e,_,_,rfl,(List.getElem?_eq_some_iff.mp q4).1,(add_mod_right i 2).trans L,?_,?_,?_,?_,?_,rfl⟩);exact Z q2<|aW A<|Z q1 rfl;have:=ly kk vv d;exact((aT 0x4090088408080102102221108102) K this);exact j.own (F.fresh B) _;exact(bl f).trans O;rw[fU];exact aD
    .rw[pl H]at M;trivial
   .rintro J ⟨i,d,ep,X,x,M,aj,L,A,K,j,O,I,rfl⟩;rcases Nat.lt_or_ge i l.length with W|H
    .rw[pm W]at M;trivial
    .rw[drop_of_length_le H]at A;exact kv b X d ep (by exact U.trans<|a4 A.symm) j (F.fresh B) I
   .rfl
  .rw[length_map]at T;have D:l.length%2=1:=by exact Int.ofNat_inj.mp<|(Int.fmod_eq_emod_of_nonneg _<|by exact bQ).symm.trans T
   intro q hq;refine jn c (am G) (d5:=[cD,dX,iQ]) (aD) fun e h2 y=>?_;obtain⟨d,U,p⟩:=y.p;refine jm p.at_ ?_;exact g e h2 xy {} (by unfold a0;rw[N];exact(if_pos D))<|y.pre<|F.trans<|aw hq
 .obtain⟨d,hd0,p⟩:=y.p;refine⟨⟨d,{},p.at_⟩,?_⟩;refine(sx N).elim fun m1 m2=>?_;refine HG c (am G) p m1 m2 fun e2 h2 z=>?_;obtain⟨d2,a2,p2⟩:=z.p;refine G9 p2.at_ (z.ext _ _ p.at_) (bv z.fresh p.at_) rfl rfl ?_;intro o;exact g e2 _ _ _ (by unfold a0;exact Z N rfl)<|(z.ctx p2.at_).pre y.ext
end
end
def bH(d:bk):Nat:=2*b3 (d6 d)+8*d.length
theorem HH:bH []=0:=rfl
theorem hA(k v)(d:bk):bH ((k,v)::d)=bH d+2*(k.length+v.length)+8:=by exact(bR (bh 0x10108800a04cc40464204d25024c2808c808401409a8100)<|bh 0x102442808c018441409a8084c1050262202301026928100)
theorem e0(k v):∀d:bk,bH (put k v d)<=bH d+2*(k.length+v.length)+8:=by
 intro d;induction d with
 |nil=>simp only[l9,fL];rw[hA];exact(aT 0x80848085026012808480850260128100)
 |cons pp r ab=>
  obtain⟨a,b⟩:=pp;have:=ab;rw[fL];split
  .rename_i q;subst q;simp only[hA];exact(bh 0x10109010a04e021302140980492808480850260128100)
  .simp only[hA];exact((fK 0x8084c105026212010210109820a04e021508140988492808542050260128101) this)
theorem nd(k):∀d:bk,bH (del k d)<=bH d:=by
 intro d;induction d with
 |nil=>exact Nat.le_refl _
 |cons pp r ab=>
  obtain⟨a,b⟩:=pp;have:=ab;rw[hd];split;rw[hA];exact(aT 0x40424042813009008100)
  .simp only[hA];exact((bh 0x4008108084c1050262128084c1050260128101) this)
theorem HI(l):∀d:bk,bH (fA d l)<=bH d+2*b3 l+4*l.length:=by
 induction l using nb with
 |hz=>exact fun d=>Nat.le_refl _
 |zq1 x=>exact fun d=>(aT 0x1080d88813009008100)
 |zq2 k v r ab=>exact fun d=>((gM 0x1010b050a04d02422040c406c84098848040840981261280d9060942813409008102) (ab<|put k v d)<|e0 k v d)
theorem cH{t d}(h:a0 t=.ok d):bH d<=6*t.length:=by obtain⟨l,Y,rfl⟩:=nc h;have Z:=lA Y;exact((bh 0x2101b0102600a46204041080c040081008c0d988103) Z.1 Z.2<|HI l [])
theorem HJ{k v}:∀{d:bk},aH k d=some v->2*v.length<=bH d:=by
 intro d;induction d with
 |nil=>intros;trivial
 |cons pp r ab=>obtain⟨a,b⟩:=pp;intro h;rw[jT]at h;rw[hA];split at h;obtain rfl:=a2 h;exact(aT 0x40420082813109008138100);have:=ab h;exact((bh 0x200409c0840426082813109008138101) this)
theorem lB{p}:∀{d:bk},p∈d->2*(p.1.length+p.2.length)+8<=bH d:=by
 intro d;induction d with
 |nil=>intros;trivial
 |cons pp r ab=>
  obtain⟨a,b⟩:=pp;intro h;rw[hA];rcases bU h with q|q
  .subst q;exact(aT 0x20211001409904a0211001409a8100)
  .have:=ab q;exact((bV 0x1080844005026a0420214061409904a0211001409a8101) this)
theorem HK(l):(eH [32] l).length<=b3 l+l.length:=by
 induction l with
 |nil=>exact Nat.le_refl _
 |cons a r ab=>
  cases r with
  |nil=>exact le_add_right _ _
  |cons b r=>rw[md,length_append,length_append,na];exact((bV 0x1024c220212010210260498488084812010240148128101) ab)
theorem lC(l):(dm l).length<=2*b3 l+3*l.length:=by have a:=HK<|quoteAll true l;have Z:=xx l true;exact((bV 0x1010812410266204d08810202100810418266204d008103) a Z.1 Z.2)
theorem iF(d):(bg d).length<=bH d:=by have:=lC<|d6 d;rw[pi]at this;exact((aT 0x8409e0988813402040840462204d008101) this)
theorem lD{aq}(k j)(v:aq)(d):aH k (put j v d)=if j=k then some v else aH k d:=by
 induction d with
 |nil=>rfl
 |cons p r ab=>obtain⟨a,b⟩:=p;by_cases q:a=j;subst q;refine(bn (aH k)<|if_pos rfl).trans ?_;by_cases Z:a=k;exact(if_pos Z).trans (if_pos Z).symm;exact(if_neg Z).trans<|(if_neg Z).symm.trans (if_neg Z).symm;refine(bn (aH k)<|if_neg q).trans ?_;by_cases Z:a=k;exact(if_pos Z).trans<|(if_pos Z).symm.trans (if_neg fun h=>q<|Z.trans h.symm).symm;refine(if_neg Z).trans<|ab.trans ?_;by_cases Y:j=k;exact(if_pos Y).trans (if_pos Y).symm;exact(if_neg Y).trans<|((if_neg Z).symm).trans (if_neg Y).symm
theorem HL{k v}(l):∀d:bk,aH k (fA d l)=some v->aH k d=some v\/v∈l:=by
 induction l using nb with
 |hz=>exact fun d h=>.inl h
 |zq1 x=>exact fun d h=>.inl h
 |zq2 a b r ab=>
  intro d h;rcases ab (put a b d) h with q|q
  .rw[lD]at q;by_cases e:a=k;rw[if_pos e]at q;obtain rfl:=a2 q;exact .inr<|.tail _<|.head _;rw[if_neg e]at q;exact .inl q
  .exact .inr<|.tail _<|.tail _ q
theorem gz{t k v d}(h:a0 t=.ok d)(Z:aH k d=some v):v.length<=t.length:=by obtain⟨l,Y,rfl⟩:=nc h;exact(HL l [] Z).elim no fun q=>bp (su q) (lA Y).1
theorem HM{aq k x}:∀{d:List (aa×aq)},x∈(del k d).map (·.1)->x∈d.map (·.1):=by
 intro d;induction d with
 |nil=>intros;trivial
 |cons pp r ab=>
  obtain⟨a,b⟩:=pp;intro h;rw[hd]at h;split at h;exact .tail _ h
  .rcases bU h with q|q
   .exact Z q<|.head _
   .exact .tail _<|ab q
theorem nf{aq k}:∀{d:List (aa×aq)},(d.map (·.1)).Nodup->((del k d).map (·.1)).Nodup:=by
 intro d;induction d with
 |nil=>intro h;exact h
 |cons pp r ab=>obtain⟨a,b⟩:=pp;intro aC;have Z:=nodup_cons.mp aC;rw[hd];split;exact Z.2;exact nodup_cons.mpr ⟨fun h=>Z.1<|HM h,ab Z.2⟩
theorem sy{aq k}:∀{d:List (aa×aq)},aH k d=none->del k d=d:=by
 intro d;induction d with
 |nil=>intro O;exact rfl
 |cons pp r ab=>obtain⟨a,b⟩:=pp;intro h;rw[jT]at h;rw[hd];split at h;trivial;rename_i q;exact(if_neg q).trans<|a4<|ab h
def cZ(t k v:aa):Except cb aa:=(a0 t).map fun d=>bg<|put k v d
def gA(t k Z v:aa):Except cb aa:=match a0 t with
 |.error e=>.error e
 |.ok d=>match aH k d with
  |none=>.ok<|bg<|put k (bg<|put Z v []) d
  |some u=>match a0 u with|.error e=>.error e|.ok d2=>.ok<|bg<|put k (bg<|put Z v d2) d
def km(t k:aa):Except cb aa:=(a0 t).map fun d=>bg<|del k d
def gB(t k Z:aa):Except cb aa:=match a0 t with
 |.error e=>.error e
 |.ok d=>match aH k d with
  |none=>.error<|lx k
  |some u=>match a0 u with|.error e=>.error e|.ok d2=>.ok<|bg<|put k (bg<|del Z d2) d
section
open PySem
section
variable{C:eW}{ax:Nat->Option (List V)}{n:Nat}{U:Option Nat}{P:a3 V}{E:a3 Nat}{h:ar}
theorem xG(c:aQ C ax)(Z:n<=86){k}(X:k.length<=8000000)(V:∀e W,cq h W e {} (lx k)->P (.Y e) W):C n U (.Y 371) [.S k] P E h:=by refine c.fn rfl (af Z) ?_;refine⟨((aF 0x3d0900172020420000006480a0ca8101) X),?_⟩;refine⟨by simp;exact af X,?_⟩;intro a T;refine jn c (am Z) (d5:=[cD,ie,[68,73,67,84],k]) (aD) fun e R y=>?_;exact V e R<|y.pre<|aw T
theorem HN(c:aQ C ax)(Z:n<=80){a ep q d}(U:h a=some (.av (br d) ep))(X:h q=some (.ag []))(aC:(d.map (·.1)).Nodup)(T:2*b3 (d6 d)+8*d.length<=8000000)(k:∀W,Ext h W->P (.S<|bg d) W):C n none (.Y 378) [.Y a,.Y q] P E h:=by refine c.fn rfl (af Z) ?_;refine c.len_list X (zero_le _) ?_;refine c.len_list X (zero_le _) ?_;refine c.iC (Int.NonNeg.mk _) (bQ) fun r V=>?_;refine m6 (aD) ?_;refine g0 c (am Z) (aw V _ _ U) aC T fun Q R=>?_;exact k _<|(aw V).trans R
theorem xH(c:aQ C ax)(U:n<=80){a ep q d k}(Q:k.length<=8000000)(T:h a=some (.av (br d) ep))(X:h q=some (.ag [.S k]))(O:∀v W,aH k d=some v->Ext h W->P (.S v) W)(N:∀e W,aH k d=none->cq h W e {} (lx k)->E e W):C n none (.Y 378) [.Y a,.Y q] P E h:=by
 refine c.fn rfl (af U) ?_;refine c.len_list X (succ_pos _) ?_;refine c.len_list X (succ_pos _) ?_;refine c.iC (Int.NonNeg.mk _) (by simp) fun r Z=>?_;refine m6 (aD) ?_;refine bj (aw Z _ _ X) (v:=.S k) rfl ?_;refine gX (aw Z _ _ T) ?_;rw[dJ];rcases V:aH k d with _|v
 .
  refine bj (aw Z _ _ X) (v:=.S k) rfl ?_;refine xG c (am U) Q fun e M y=>?_;refine y.p.elim fun d R=>?_;refine jm R.2.at_ ?_;exact N e M V<|y.pre<|aw Z
 .
  refine bj (aw Z _ _ X) (v:=.S k) rfl ?_;refine dA (aw Z _ _ T) (v:=.S v) (by rw[dJ,V];rfl) ?_;exact O v _ V<|aw Z
theorem pn(c:aQ C ax)(R:n<=80){t q}(O:t.length<=8000000)(N:h q=some (.ag []))(M:∀b a Z d ep,a0 t=.ok d->Ext h Z->h a=none->h b=none->a≠b->Z a=some (.av (br d) ep)->Z b=some (.ag [.Y a])->P (.Y b) Z)(L:∀e Z W a7,a0 t=.error W->cq h Z e a7 W->E e Z):
  C n none (.Y 385) [.S t,.Y q] P E h:=by
 refine c.fn rfl (af R) ?_;refine dS c (am R) O (fun a Q d ep U T K V=>?_) fun e Q W a7 U y=>L e Q W a7 U y;intro b X;refine hx (aw (o:=.ag [.Y a]) X _ _<|T _ _ N) ?_;exact M b a _ d ep U (T.trans<|aw X) K (T.fresh X) (bv X V) ((aw X) _ _ V)<|aD
theorem xI(c:aQ C ax)(J:n<=80){t k q}(u:t.length<=8000000)(F:h q=some (.ag [.S k]))(s:∀d v,a0 t=.ok d->aH k d=some v->v.length<=8000000)(D:∀b a Z d ep,a0 t=.ok d->aH k d=none->Ext h Z->h a=none->h b=none->a≠b->Z a=some (.av (br d) ep)->Z b=some (.ag [.Y a])->P (.Y b) Z)(r:∀b a X Z d d2 v ep ep2,a0 t=.ok d->aH k d=some v->a0 v=.ok d2->Ext h Z->h a=none->h b=none->h X=none->a≠b->X≠a->X≠b->Z a=some (.av (br d) ep)->Z X=some (.av (br d2) ep2)->Z b=some (.ag [.Y a,.Y X])->P (.Y b) Z)(p:∀e Z T a7,a0 t=.error T->cq h Z e a7 T->E e Z)(B:∀e Z T a7 d v,a0 t=.ok d->aH k d=some v->a0 v=.error T->cq h Z e a7 T->E e Z):
  C n none (.Y 385) [.S t,.Y q] P E h:=by
 refine c.fn rfl (af J) ?_;refine dS c (am J) u (fun a K d ep U R A V=>?_) fun e K T a7 U y=>p e K T a7 U y;intro b Q;have W:Ext K (K.set b (.ag [.Y a])):=aw Q;have O:=bv Q V;refine hx (W _ _<|R _ _ F) ?_;refine bj (aD) (v:=.Y a) rfl ?_;refine gX (W _ _ V) ?_;rw[dJ];rcases N:aH k d with _|v
 .
  exact D b a _ d ep U N (R.trans W) A (R.fresh Q) O (W _ _ V)<|aD
 .
  refine eL (aD) ?_;refine dA (W _ _ V) (v:=.S v) (by rw[dJ,N];rfl) ?_;refine dS c (am J) (s d v U N) (fun X I d2 ep2 M H L G=>?_) fun e I T a7 M y=>B e I T a7 d v U N M<|y.pre<|R.trans W;have z:=H _ _<|aD;refine eM z (succ_pos _) ?_;have x:b≠X:=bv L<|aD;have o:a≠X:=bv L<|W _ _ V;have w:Ext h (I.set b (.ag [.Y a,.Y X])):=((R.trans W).trans H).own (R.fresh Q) _;refine⟨w _ _ F,?_⟩;exact r b a X _ d d2 v ep ep2 U N M w A (R.fresh Q) ((R.trans W).fresh L) O o.symm x.symm ((bl O).trans<|H _ _<|W _ _ V) ((bl x.symm).trans G)<|aD
def el(a:Nat)(h Z:ar):Prop:=∀b o,b≠a->h b=some o->Z b=some o
theorem Ext.hB{h Z Y a}(x:Ext h Z)(X:h a=none)(y:el a Z Y):Ext h Y:=fun b o e=>y b o (bv X e)<|x b o e
theorem sz(c:aQ C ax)(X:n<=80){b a q ep d}(W:h b=some (.ag [.Y a]))(U:h a=some (.av (br d) ep))(aC:(d.map (·.1)).Nodup)(T:bH d<=8000000)(R:∀V,Ext h V->P (.S<|bg d) V):C n none (.Y 392) [.Y b,.Y q] P E h:=by refine c.fn rfl (af X) ?_;refine c.len_list W (succ_pos _) ?_;refine c.eF (aU) (aL) (Int.NonNeg.mk _) (by simp) (bQ) (bQ) fun r Z=>?_;refine m7 (aD) ?_;refine bj (aw Z _ _ W) (v:=.Y a) rfl ?_;refine g0 c (am X) (aw Z _ _ U) aC T fun O Q=>?_;exact R _<|(aw Z).trans Q
theorem xJ(c:aQ C ax)(R:n<=80){b a Z q ep ep2 k ac d d2}(X:h b=some (.ag [.Y a,.Y Z]))(U:h a=some (.av (br d) ep))(O:h Z=some (.av (br d2) ep2))(G:h q=some (.ag<|.S k::ac))(B:Z≠a)(aC:(d.map (·.1)).Nodup)(N:(d2.map (·.1)).Nodup)(M:bH d2<=8000000)(T:bH (put k (bg d2) d)<=8000000)(L:∀K,el a h K->P (.S<|bg<|put k (bg d2) d) K):C n none (.Y 392) [.Y b,.Y q] P E h:=by
 refine c.fn rfl (af R) ?_;have J:d.length<=4000000:=by
  have:d.length<=(put k (bg d2) d).length:=by
   clear T L aC U;induction d with
   |nil=>exact aL
   |cons p r ab=>rw[fL];split<;>simp only[length_cons]<;>first|exact Nat.le_refl _|exact succ_le_succ ab
  unfold bH at T;exact((aT 0x8210103d09001722202301026a043d09002c4840402) T this)
 refine c.len_list X (aL)<|c.eF (aU) (aL) (Int.NonNeg.mk _) (by simp) (bQ) (bQ) fun r Q=>?_;refine m7 (aD) ?_;rw[show fa (-1) ((([V.Y a,V.Y Z]:List V).length:Int)-1) (fs ((([V.Y a,V.Y Z]:List V).length:Int)-1) 0<|-1)=[.ae 1] from by simp[Aj,Ak,fs]];refine bj (aw Q _ _ X) (v:=.Y Z) rfl<|g0 c (am R) (aw Q _ _ O) N M fun A F=>?_;have W:=(aw (o:=.eF ((0:Int)+1+1-1) 0<|-1) Q).trans F;refine bj (W _ _ X) (v:=.Y a) rfl<|bj (W _ _ G) (v:=.S k) rfl ?_;refine eB (W _ _ U) (by rw[fB];exact af J) fun e=>?_;refine⟨trivial,?_⟩;have I:b≠a:=fun q=>by subst q;rw[X]at U;cases U
 refine bj ((bl I).trans<|W _ _ X) (v:=.Y a) rfl ?_;rw[fU];refine g0 c (am R) (aD) (ek aC) T fun z D=>?_;exact L _ fun y o H e=>D _ _<|(bl H).trans<|W _ _ e
theorem xK{t k:aa}{d d2}(Y:t.length<=100000)(X:k.length<=100000)(U:bH d<=6*t.length)(Z:bH d2<=1100000):bH (put k (bg d2) d)<=8000000:=by have t1:=e0 k (bg d2) d;have:=iF d2;exact((fK 0x185102080854085026412410210c8e02a4c40800606c840861a808911020c35011203030f424005ca08106) Y X U Z t1 this)
theorem HO(c:aQ C ax)(R:n<=79){t k v q}(Q:t.length<=100000)(F:k.length<=100000)(D:v.length<=100000)(N:h q=some (.ag [.S k]))(B:∀r Z,cZ t k v=.ok r->Ext h Z->P (.S r) Z)(A:∀e Z W a7,cZ t k v=.error W->cq h Z e a7 W->E e Z):C n none (.Y 399) [.S t,.Y q,.S v] P E h:=by refine c.fn rfl (af R) ?_;refine ej (t:=[]) N rfl (succ_pos _) rfl rfl ?_;intro p K;refine pn c (am R) (af Q) (aD) (fun b a V d ep U M z s I H X=>?_) fun e V W a7 U y=>A e V W a7 (a4 U)<|y.pre<|aw K;have L:=cH U;have G:=e0 k v d;have T:Ext h (h.set p (.ag [])):=aw K;refine eZ (aq:=Unit) (fun O=>0) (fun O J=>J=⟨[some<|.S t,some<|.Y q,some<|.S v,some<|.Y b],V⟩) (fun J=>J=⟨[some<|.S t,some<|.Y q,some<|.S v,some<|.Y b],V⟩) ?_ ?_ (a:=()) rfl;rintro J rfl;refine bj X (v:=.Y a) rfl ?_;refine bj (M _ _<|T _ _ N) (v:=.S k) rfl ?_;refine eB H (by rw[fB];unfold bH at L;exact((aT p7) Q L)) fun e=>?_;rw[fU];refine sz c (am R) ((bl I.symm).trans X) (aD) (ek<|cG U) ((bV tz) Q F D L G) fun x w=>?_;exact B _ x (a4 U)<|((T.trans M).own (T.fresh z) _).trans w;rintro fy o u _ ab m bm J rfl;refine c.len_list X (succ_pos _) ?_;refine c.len_list (M _ _<|T _ _ N) (succ_pos _) ?_;exact u rfl
theorem HP(c:aQ C ax)(g:n<=79){t k L v q}(o:t.length<=100000)(hk:k.length<=100000)(j:L.length<=100000)(hv:v.length<=100000)(A:h q=some (.ag [.S k,.S L]))(kv:∀r K,gA t k L v=.ok r->Ext h K->P (.S r) K)(ke:∀e K z a7,gA t k L v=.error z->cq h K e a7 z->E e K):C n none (.Y 399) [.S t,.Y q,.S v] P E h:=by
 refine c.fn rfl (af g) ?_;refine ej (t:=[.S k]) A rfl (aL) rfl rfl ?_;intro p hp;have N:Ext h (h.set p (.ag [.S k])):=aw hp;have fin:∀{X:ar}{b a V ep ep2:Nat}{d d2:bk},a0 t=.ok d->bH d2<=600000->(d2.map (·.1)).Nodup->Ext h X->h a=none->h b=none->h V=none->a≠b->V≠a->V≠b->X a=some (.av (br d) ep)->X V=some (.av (br d2) ep2)->X b=some (.ag [.Y a,.Y V])->(∀K,Ext h K->P (.S (bg (put k (bg (put L v d2)) d))) K)->
   run (eh C ax<|n+1) none (cf [.c0 (.aE (.x 3)<|.cm<|.k<|.ae 1) (.aE (.x 1)<|.cm<|.k<|.ae 1)<|.x 2,.ay<|.bW (.k<|.Y 392) [(.x 3),(.x 1)]]) (jf P) (jg P) (jh E) [] [some<|.S t,some<|.Y q,some<|.S v,some<|.Y b] X:=by
  intro X b a V ep ep2 d d2 U D a1 f w m W n1 l n3 Q F T kk;have hz:=cH U;have i:=e0 L v d2;refine bj T (v:=.Y V) rfl ?_;refine bj (f _ _ A) (v:=.S L) rfl ?_;refine eB F (by rw[fB];unfold bH at D;exact((az 0x124f805088808c0409a810f42400304440401) D)) fun e=>?_;rw[fU];refine xJ c (am g) (k:=k) (ac:=[.S L]) ((bl n3.symm).trans T) ((bl l.symm).trans Q) (aD) ((f.own W _) _ _ A) l (cG U) (ek a1) ((bh 0x202110014099048c408493e0142420430d40448881061a808901020f424005c988104) j hv D i) (xK o hk hz<|(bh 0x808440050264123102124f805090810c3501122204186a022404082191c054988104) j hv D i) fun M x2=>?_;exact kk M<|(f.own W _).hB w x2
 refine xI c (am g) (af o) (aD) (fun d v U I=>by have:=gz U I;exact((az qe) o this)) (fun b a X d ep U I R w m B Q T=>?_) (fun b a V X d d2 u ep ep2 U I H R w m W B a2 a3 Q F T=>?_) (fun e X z a7 U y=>ke e X z a7 (by unfold gA;exact Z U rfl)<|y.pre N) (fun e X z a7 d u U I H y=>ke e X z a7 (by unfold gA;rw[U];dsimp only;rw[I];dsimp only;exact Z H rfl)<|y.pre N)
 .have G:h b=none:=N.fresh m;have s:h a=none:=N.fresh w;have R:Ext h X:=N.trans R;refine eZ (aq:=Bool) (fun x=>if x then 1 else 0) (fun x J=>(x=true/\J=⟨[some<|.S t,some<|.Y q,some<|.S v,some<|.Y b],X⟩)\/(x=false/\cP fun M V e=>ct (X V=none) (J=⟨[some<|.S t,some<|.Y q,some<|.S v,some<|.Y b],M⟩)<|M=(X.set V<|.av [] e).set b (.ag [.Y a,.Y V])))
   (fun J=>cP fun M V e=>ct (X V=none) (J=⟨[some<|.S t,some<|.Y q,some<|.S v,some<|.Y b],M⟩)<|M=(X.set V<|.av [] e).set b (.ag [.Y a,.Y V])) ?_ ?_ (a:=true) (.inl ⟨rfl,rfl⟩)
  .rintro J ⟨M,V,e,W,rfl,rfl⟩;have n1:=bv W T;have l:=bv W Q;have xa:Ext X (X.set V (.av [] e)):=aw W;refine fin (d2:=[]) (ep2:=e) (ep:=ep) U (Z HH<|qy 0x927c0284018100) .nil ((R.trans xa).own G _) s G (R.fresh W) B l.symm n1.symm ((bl B).trans<|xa _ _ Q) ((bl n1.symm).trans<|aD) (aD) fun h3 x3=>?_;exact kv _ h3 (by unfold gA;rw[U];dsimp only;exact Z I rfl) x3
  .rintro fy Kx hx x ab kb bm J (⟨rfl,rfl⟩|⟨rfl,M,V,e,W,rfl,rfl⟩);refine c.len_list T (succ_pos _) ?_;refine c.len_list (R _ _ A) (aL) ?_;refine eL T ?_;intro e V W;refine eM (aw W _ _ T) (succ_pos _) ?_;exact ab false _ (succ_pos _)<|.inr ⟨rfl,_,V,e,W,rfl,rfl⟩;refine c.len_list (aD) (aL) ?_;refine c.len_list (((R.trans<|aw W).own G _) _ _ A) (aL) ?_;exact hx ⟨_,V,e,W,rfl,rfl⟩
 .have G:h b=none:=N.fresh m;have s:h a=none:=N.fresh w;have R:Ext h X:=N.trans R;refine eZ (aq:=Unit) (fun O=>0) (fun O J=>J=⟨[some<|.S t,some<|.Y q,some<|.S v,some<|.Y b],X⟩) (fun J=>J=⟨[some<|.S t,some<|.Y q,some<|.S v,some<|.Y b],X⟩) ?_ ?_ (a:=()) rfl
  .rintro J rfl;have t1:=cH H;have bA:=gz U I;refine fin U ((aT 0x430302181b1102186a02240606124f8050888103) o t1 bA) (cG H) R s G (N.fresh W) B a2 a3 Q F T fun h3 x3=>?_;exact kv _ h3 (by unfold gA;rw[U];dsimp only;rw[I];dsimp only;exact Z H rfl) x3
  .rintro fy Kx hx _ ab kb bm J rfl;refine c.len_list T (aL) ?_;refine c.len_list (R _ _ A) (aL) ?_;exact hx rfl
theorem sA{P h a ep d k}(W:h a=some (.av (br d) ep))(T:d.length<=16000000)(V:∀u U X,X a=some (.av (br<|del k d) U)->(∀b,b≠a->X b=h b)->P u X):mn (.Y a) .pop [.S k,.a5] P h:=by
 refine sh W (by rw[fB];exact T) ?_;rw[dJ];rcases q:aH k d with _|v
 .exact V .a5 ep h (Z (sy q) W) fun O O=>rfl
 .exact fun e=>V (.S v) e _ (by rw[xz];exact aD) fun b R=>bl R
theorem HQ(c:aQ C ax)(Q:n<=79){t k q}(O:t.length<=100000)(N:h q=some (.ag [.S k]))(F:∀r Z,km t k=.ok r->Ext h Z->P (.S r) Z)(D:∀e Z V a7,km t k=.error V->cq h Z e a7 V->E e Z):C n none (.Y 406) [.S t,.Y q] P E h:=by refine c.fn rfl (af Q) ?_;refine ej (t:=[]) N rfl (a1) rfl rfl ?_;intro p K;refine pn c (am Q) (af O) (aD) (fun b a M d ep U X B w J T W=>?_) fun e M V a7 U y=>D e M V a7 (a4 U)<|y.pre<|aw K;have L:=cH U;have I:=nd k d;have H:Ext h (h.set p (.ag [])):=aw K;have X:Ext h M:=H.trans X;refine c.len_list W (a1) ?_;refine c.len_list (X _ _ N) (a1) ?_;refine bj W (v:=.Y a) rfl ?_;refine lq T ?_;refine bj (X _ _ N) (v:=.S k) rfl ?_;refine sA T (by unfold bH at L;exact((aT p7) O L)) fun u x s G R=>?_;refine sz c (am Q) ((R _ J.symm).trans W) G (nf<|cG U) ((aT 0x20840800c0d88810c35011203030f424005c908103) O L I) fun A z=>?_;exact F _ A (a4 U) fun m o e=>z _ _<|(R _<|bv (H.fresh B) e).trans<|X _ _ e
theorem HR(c:aQ C ax)(F:n<=79){t k R q}(M:t.length<=100000)(m:k.length<=100000)(a0:R.length<=100000)(L:h q=some (.ag [.S k,.S R]))(kv:∀r I,gB t k R=.ok r->Ext h I->P (.S r) I)(z:∀e I K a7,gB t k R=.error K->cq h I e a7 K->E e I):C n none (.Y 406) [.S t,.Y q] P E h:=by
 refine c.fn rfl (af F) ?_;refine ej (t:=[.S k]) L rfl (a1) rfl rfl ?_;intro p hp;have J:Ext h (h.set p (.ag [.S k])):=aw hp;refine xI c (am F) (af M) (aD) (fun d v U V=>by have:=gz U V;exact((az qe) M this)) (fun b a Q d ep U V X l hb j D W=>?_) (fun b a a2 Q d d2 u ep ep2 U V T X l hb i j B g D H W=>?_) (fun e Q K a7 U y=>z e Q K a7 (by unfold gB;exact Z U rfl)<|y.pre J) (fun e Q K a7 d u U V T y=>z e Q K a7 (by unfold gB;rw[U];dsimp only;rw[V];dsimp only;exact Z T rfl)<|y.pre J)
 .have X:Ext h Q:=J.trans X;refine c.len_list W (a1) ?_;refine c.len_list (X _ _ L) (a1) ?_;refine c.len_list W (a1) ?_;refine eA (X _ _ L) (v:=.S k) rfl (Int.NonNeg.mk _) (by simp) ?_;refine xG c (am F) (af m) fun e x y=>?_;refine y.p.elim fun d' f=>?_;refine jm f.2.at_ ?_;exact z e x _ {} (by unfold gB;rw[U];dsimp only;exact Z V rfl)<|y.pre X
 .have hz:=cH U;have N:=cH T;have G:=gz U V;have A:=nd R d2;have X:Ext h Q:=J.trans X;refine c.len_list W (a1) ?_;refine c.len_list (X _ _ L) (a1) ?_;refine bj W (v:=.Y a2) rfl ?_;refine lq H ?_;refine bj (X _ _ L) (v:=.S R) rfl ?_;refine sA H (by unfold bH at N;exact((bh 0x3181818c0d90808c4409a810c35011203030f42400304840403) M N G)) fun w a3 x s O=>?_;have x2:Ext h x:=fun b' o e=>(O _<|bv (J.fresh i) e).trans<|X _ _ e;refine xJ c (am F) (k:=k) (ac:=[.S R]) ((O _ g.symm).trans W) ((O _ B.symm).trans D) s (x2 _ _ L) B (cG U) (nf<|cG T) ((bh 0x20c408002181810c0d88810c35011203030f424005c988104) M N G A) (xK M m hz<|(bh 0x831020008606043036220430d404480c0c2191c054988104) M N G A) fun h3 x3=>?_;exact kv _ h3 (by unfold gB;rw[U];dsimp only;rw[V];dsimp only;exact Z T rfl)<|x2.hB (J.fresh l) x3
theorem HS(c:aQ C ax)(j:n<=85){a q ep lo d}{ws l:List aa}(B:h a=some (.av (br d) ep))(K:h q=some (.ag<|ws.map .S))(G:ws.drop lo=l)(A:lo<=ws.length)(g:l.length%2=0)(R:ws.length<=1000000)(z:d.length<=1000000)(f:∀W y,el a h W->W a=some (.av (br<|fA d l) y)->P .a5 W):C n none (.Y 449) [.Y a,.Y q,.ae lo] P E h:=by
 refine c.fn rfl (af j) ?_;have w:l.length=ws.length-lo:=(a4 G.symm).trans length_drop;refine c.len_list K (by simp;exact af R) ?_;refine c.eF (aU) (aL) (aF n4) ((az 0x1e848050888101002042000000000000000f4808172) A R) (aF n4) (Z (length_map ..)<|(aF 0x7a12014202042000000000000000f4808171) R) fun r hr=>?_;refine m7 (aD) ?_;rw[length_map];have u:q≠a:=fun e=>by subst e;rw[B]at K;cases K
 have t:Ext h (h.set r (.eF (lo:Int) (ws.length:Int) 2)):=aw hr;refine dI (fun D J=>gJ fun(i:Nat)(U:bk)(ep:Nat)(W:ar)(x:Option V)=>hb (D=fa 2 i (fs i ws.length 2)) (i<=ws.length) ((ws.length-i)%2=0) (fA U (ws.drop i)=fA d l) (U.length<=d.length+i) (el a h W) (W a=some (.av (br U) ep))<|J=⟨[some<|.Y a,some<|.Y q,some<|.ae lo,x],W⟩) ?_ ?_ ⟨lo,d,ep,_,none,rfl,A,(w▸g),a4 G,(az 0x1001008100),fun b o O e=>t _ _ e,t _ _ B,rfl⟩
 .rintro v ad Kb ab kb bm J ⟨i,U,ep,W,x,Q,aj,N,I,T,H,M,rfl⟩;rcases Nat.lt_or_ge i ws.length with X|L
  .rw[pm X]at Q;cases Q;obtain⟨s,p,rr,q1,q2,q3,m⟩:=xD X N;have F:=H _ _ u K;refine eA F (xF m) (aF gH) ((az 0x4408fa120142020420000000000000003f3024428172) R X)<|eA F (kl q3) cL ((az 0x11023e848050808108000000000000000fc888172) R X) ?_;refine eB M (by rw[fB];exact((bh 0xc4089810884087a12014222043d0900a101021e8480060908104) R z T X)) fun e=>?_;refine(ab _ trivial ⟨i+2,put s p U,e,_,_,rfl,(List.getElem?_eq_some_iff.mp m).1,by rw[sub_add_eq];exact sub_mod_eq_zero_of_mod_eq N,?_,?_,?_,?_,rfl⟩);exact Z q2<|aW I<|Z q1 rfl;have:=ly s p U;exact((bh 0x409008c40810108040840890421188102) T this);exact fun b o k e=>(bl k).trans<|H _ _ k e;rw[fU];exact aD
  .rw[pl L]at Q;trivial
 .rintro J ⟨i,U,ep,W,x,Q,aj,N,I,T,H,M,rfl⟩;rcases Nat.lt_or_ge i ws.length with X|L
  .rw[pm X]at Q;trivial
  .rw[drop_of_length_le L]at I;exact f W ep H<|aW I M
noncomputable def ins(i:Nat)(l:aa):aa:=if i∈l then l else l++[i]
noncomputable def d7(l:aa):List (Int×V):=l.map fun i:Nat=>((i:Int),V.aP true)
theorem sB(l):(d7 l).length=l.length:=length_map ..
theorem xL(i:Nat):∀l:aa,(hL (i:Int)<|d7 l).isSome=decide (i∈l):=by
 intro l;induction l with
 |nil=>rfl
 |cons a r ab=>
  have:=ab;unfold d7 at*;simp only[map_cons,tY,tZ];by_cases h:a=i
  .subst h;simp
  .rw[if_neg<|ToInt.of_diseq rfl rfl h,this];simp[Ne.symm h]
theorem xM(i:Nat):∀l:aa,jU (i:Int) (.aP true) (d7 l)=d7 (ins i l):=by
 intro l;induction l with
 |nil=>exact rfl
 |cons a r ab=>
  have:=ab;unfold d7 ins at*;simp only[map_cons,Ad,Ae];by_cases h:a=i
  .subst h;simp
  .rw[if_neg<|ToInt.of_diseq rfl rfl h,this];by_cases Z:i∈r
   .simp[Z]
   .simp[Z,Ne.symm h]
noncomputable def jo:aa->Nat->aa->aa|c::r,Z,es=>if c=42 then jo r (Z+1) (ins (Z+1) es)else es|[],_,es=>es
theorem sC:∀(x:Nat)(Z:aa)(c:Nat)(r:aa),jo (c::r) x Z=if c=42 then jo r (x+1) (ins (x+1) Z)else Z:=by intros;rfl
def pp(p:aa)(Z:Nat)(es:aa):aa:=jo (p.drop Z) Z<|ins Z es
noncomputable def jp(p:aa)(Z c:Nat):Option Nat:=match p[Z]? with|none=>none|some d=>if d=63 then some (Z+1)else if d=91 then(if c=97\/c=98 then some 4 else none)else if d=92 then(if p[Z+1]?=some c then some (Z+2)else none)else if d=c then some (Z+1)else none
def fC(p:aa)(c:Nat)(Z:aa)(Y:Nat):aa:=if p[Y]?=some 42 then pp p Y Z else match jp p Y c with|some b=>pp p b Z|none=>Z
noncomputable def ng(p:aa):aa->aa->Bool|[],Z=>decide (p.length∈Z)|c::r,Z=>if p.getLast?=some 42/\p.length-1∈Z then true else if Z.foldl (fC p c) []=[]then false else ng p r (Z.foldl (fC p c) [])
theorem HT:∀(p x:aa)(c:Nat)(r:aa),ng p (c::r) x=if p.getLast?=some 42/\p.length-1∈x then true else if List.foldl (fC p c) [] x=[]then false else ng p r (List.foldl (fC p c) [] x):=by intros;rfl
def bP(p t:aa):Bool:=ng p t<|pp p 0 []
def d8(p l:aa):Prop:=l.Nodup/\∀i∈l,i<=p.length
theorem sD:∀(N:Nat)(l:aa),l.Nodup->(∀i∈l,i<=N)->l.length<=N+1
 |0,l,aC,h=>by
  match l,aC,h with
  |[],_,_=>exact le_add_right _ _
  |[a],_,_=>exact lt_succ_self _
  |a::b::r,aC,h=>have Y:=h a<|.head _;have X:=h b<|.tail _<|.head _;have:=(nodup_cons.mp aC).1;exact absurd (show a∈b::r by exact Z (show a=b by exact bR ((az 0x2020404008101) Y)<|(az 0x2020404008101) X)<|.head _) this
 |N+1,l,aC,h=>by
  by_cases q:N+1∈l
  .have e:=length_erase_of_mem q;have:=sD N (l.erase<|N+1) (aC.erase _) fun i aj=>by have Y:=h i<|mem_of_mem_erase aj;have X:i≠N+1:=fun e=>(aC.not_mem_erase (a:=N+1)) (by rw[e]at aj;exact aj);exact tV Y X
   exact((bh 0x81221188108124100810100204e04c09209188103) e this<|bt l.length 1)
  .have:=sD N l aC fun i aj=>by have Y:=h i aj;have X:i≠N+1:=fun e=>q (e▸aj);exact tV Y X
   exact((az 0x2048840204204c09109008101) this)
theorem d8.len{p l}(h:d8 p l):l.length<=p.length+1:=sD _ _ h.1 h.2
set_option tactic.hygienic true in
theorem d8.ins{p l i}(h:d8 p l)(aj:i<=p.length):d8 p (ins i l):=by
 unfold Mine.Internal.ins;split;exact h
 .rename_i q;refine⟨nodup_append.mpr ⟨h.1,aU,fun a Y b Z e=>?_⟩,fun j X=>?_⟩;rw[mem_singleton]at Z;subst Z;subst e;exact q Y
  .rcases mem_append.mp X with g|g
   .exact h.2 j g
   .rw[mem_singleton]at g;exact((aT 0x1081210020404108102) aj g)
theorem d8.nil(p):d8 p []:=⟨.nil,fun O h=>by trivial⟩
theorem h4(a b):decide (([a]:aa)<[b])=decide (a<b):=by
 have:(([a]:aa)<[b])↔a<b:=by rw[cons_lt_cons_iff];simp
 simp only[this]
theorem po{aq}[DecidableEq aq](s:List aq)(i:Nat):gr (.ae i) (.ae<|(i:Int)+1) s=some (s[i]?.toList):=by
 unfold gr clip;dsimp only;rw[if_neg (by exact(aF 0x8081a0)),if_neg<|by exact(aF 0x30240281a0)];congr 1;rcases Nat.lt_or_ge i s.length with Z|Z
 .rw[List.getElem?_eq_getElem Z,show(max 0<|min ((i:Int)+1) s.length).toNat=i+1 from m8 (i:=i+1) Z,show(max 0<|min (i:Int) s.length).toNat=i from m8 (Nat.le_of_lt Z),take_succ_eq_append_getElem Z,drop_append];simp[Nat.min_eq_left<|Nat.le_of_lt Z]
 .rw[List.getElem?_eq_none Z];exact(drop_of_length_le<|by rw[length_take,show(max 0<|min ((i:Int)+1) s.length).toNat=s.length from sk (i:=i+1) (le_succ_of_le Z),sk Z];exact Nat.min_le_left _ _)
theorem nh(o)(c:Nat):decide (o.toList=[c])=decide (o=some c):=by cases o<;>simp
theorem sE(c:aQ C ax)(A:n<=88){p es W a ep}(T:p.length<=1000)(N:W<=p.length)(z:h a=some (.b2 (d7 es) ep))(aj:d8 p es)(k:∀X K,X a=some (.b2 (d7<|pp p W es) K)->el a h X->d8 p (pp p W es)->P .a5 X):C n U (.Y 427) [.S p,.ae W,.Y a] P E h:=by
 refine c.fn rfl (af A) ?_;refine xb z (by have:=aj.len;rw[sB];exact((az 0x8120108810fa05101021e8480060888102) T this)) fun e=>?_;rw[xM];have I:=aj.ins N;have H:∀X,X=(h.set a (.b2 (d7 (ins W es)) e))->X a=some (.b2 (d7 (ins W es)) e)/\el a h X:=fun X q=>Z q ⟨aD,fun b o Q e=>(bl Q).trans e⟩;have G:=H _ rfl;refine eZ (aq:=Nat) (fun i=>p.length-i) (fun i J=>i<=p.length/\cP fun l ep X=>eE (X a=some (.b2 (d7 l) ep)) (el a h X) (d8 p l) (jo (p.drop i) i l=pp p W es)<|J=⟨[some<|.S p,some<|.ae i,some<|.Y a],X⟩)
  (fun J=>cP fun i ep X=>cQ (X a=some (.b2 (d7<|pp p W es) ep)) (el a h X) (d8 p<|pp p W es)<|J=⟨[some<|.S p,some<|.ae i,some<|.Y a],X⟩) ?_ ?_ (a:=W) ⟨N,ins W es,e,_,G.1,G.2,I,rfl,rfl⟩
 .rintro J y;refine y.elim fun i ep X V=>?_;obtain rfl:=V.4;exact k X ep V.1 V.2 V.3
 .rintro fy w x i ab v bm J ⟨F,l,ep,X,D,B,M,L,rfl⟩;refine fz (po p i) (af T) (d4<|⟨(aF g5),((az 0x44087d028808108000000000000000fc888172) T F)⟩) (d4<|⟨(aF gH),((az 0x11021f40a2020420000000000000003f3024428172) T F)⟩) ?_
  conv=>whnf
  rw[nh];refine a9 (fun O=>?_) fun O=>?_
  .refine x ⟨i,ep,X,?_,B,?_,rfl⟩
   .rw[<-L];have:jo (p.drop i) i l=l:=by
     rcases q:p.drop i with _|⟨d,r⟩
     .rfl
     .rw[sC];rw[if_neg];intro e;exact O<|((dv q).1).trans<|a4 e
    exact Z this D
   .rw[<-L];have:jo (p.drop i) i l=l:=by
     rcases q:p.drop i with _|⟨d,r⟩
     .rfl
     .rw[sC];rw[if_neg];intro e;exact O<|((dv q).1).trans<|a4 e
    exact Z this M
  .have R:=List.getElem?_eq_some_iff.mp O;refine xb D (by have:=M.len;rw[sB];exact((az 0x8120108810fa05101021e8480060888102) T this)) fun e=>?_;refine ab (i+1) _ (sub_succ_lt_self _ _ R.1) ⟨R.1,ins (i+1) l,e,_,?_,?_,M.ins R.1,?_,rfl⟩
   .refine(aD).trans ?_;rw[show((i:Int)+1)=((i+1:Nat):Int) from rfl,xM]
   .exact fun b o Q e=>(bl Q).trans<|B b o Q e
   .rw[<-L,drop_eq_getElem_cons R.1,R.2]
    conv=>rhs
    exact(if_pos rfl).symm
def dT(p:aa):Prop:=p.length<=1000/\∀i:Nat,p[i]?=some 91->p=jB/\i=0
theorem xN{p}(ok:dT p){Z c b}(h:jp p Z c=some b):b<=p.length:=by
 unfold jp at h;rcases q:p[Z]? with _|d
 .rw[q]at h;trivial
 .
  rw[q]at h;have Y:=(List.getElem?_eq_some_iff.mp q).1;dsimp only at h;split at h;obtain rfl:=a2 h;exact Y
  .split at h
   .rename_i e;rw[(ok.2 Z<|q.trans<|congrArg _ e).1];split at h<;>cases h
    exact le_add_right _ _
   .split at h
    .split at h;rename_i e;have:=(List.getElem?_eq_some_iff.mp e).1;obtain rfl:=a2 h;exact((az 0x220480502222044028101) this);trivial
    .split at h<;>cases h;exact Y
theorem HU{p:aa}:∀{r:aa}{i:Nat}{es:aa},p.drop i=r->d8 p es->d8 p (jo r i es):=by
 intro r;induction r with
 |nil=>intro O O O h;exact h
 |cons c r ab=>intro i es U h;rw[sC];split;exact ab (dv U).2.2<|h.ins (dv U).2.1;exact h
theorem xO{p es i}(aj:i<=p.length)(h:d8 p es):d8 p (pp p i es):=HU rfl<|h.ins aj
theorem HV{p es}(ok:dT p){c i}(aj:i<=p.length)(h:d8 p es):d8 p (fC p c es i):=by
 unfold fC;split;exact xO aj h
 .split;rename_i b Z;exact xO (xN ok Z) h;exact h
theorem HW(c:aQ C ax)(N:n<=88){d}(k:∀a Q,Ext h Q->Q a=some (.an [.aP<|decide (d=97\/d=98),.ae 4])->P (.Y a) Q):C n U (.Y 413) [.S jB,.ae 0,.S [d]] P E h:=by
 refine c.fn rfl (af N)<|c.len_str (aL)<|eZ (aq:=Nat) (fun i=>4-i) (fun i J=>((i=1)\/(i=2/\d≠97)\/(i=3/\d≠97/\d≠98))/\bs fun x y=>J=⟨[some<|.S jB,some<|.ae i,some<|.S [d],some<|.ae 5,x,y,none],h⟩)
  (fun J=>d≠97/\d≠98/\bs fun x y=>J=⟨[some<|.S jB,some<|.ae 3,some<|.S [d],some<|.ae 5,x,y,none],h⟩) ?_ ?_ (a:=1) ⟨.inl rfl,none,none,rfl⟩
 .rintro J ⟨W,O,x,y,rfl⟩;intro a V;refine k a _ (aw V)<|(aD).trans ?_;simp[W,O]
 .rintro fy L M i ab K bm J ⟨(rfl|⟨rfl,W⟩|⟨rfl,W,O⟩),x,y,rfl⟩
  .refine kg (c:=97) rfl<|kg (c:=97) rfl<|fz (t:=[98]) rfl (aL) rfl rfl ?_
   conv=>whnf
   rw[h4];refine dec_not (fun X=>?_) fun X=>?_
   .conv=>whnf
    rw[h4];refine dec_not (fun Z=>?_) fun Z=>?_;exact ab 2 _ (lt_succ_self _) ⟨.inr<|.inl ⟨rfl,ne_of_lt X⟩,_,_,rfl⟩;exact False.elim<|Z X
   .conv=>whnf
    rw[h4];refine dec_not (fun Z=>?_) fun Z=>?_
    .conv=>whnf
     rw[h4];refine dec_not (fun T=>?_) fun T=>?_;exact False.elim<|X T
     .conv=>whnf
      rw[h4];refine dec_not (fun R=>?_) fun R=>?_;exact ab 2 _ (lt_succ_self _) ⟨.inr<|.inl ⟨rfl,Ne.symm<|ne_of_lt Z⟩,_,_,rfl⟩;exact False.elim<|R Z
    .refine eK rfl<|xe (bQ) (bQ) ?_;intro a V;refine bm _ _<|k a _ (aw V)<|(aD).trans ?_;have:d=97:=bR ((aF 0x18439814c21c808101) Z)<|(aF 0xc21c808140184398101) X;simp[this];rfl
  .refine kg (c:=98) rfl<|kg (c:=98) rfl<|fz (t:=[93]) rfl (aL) rfl rfl ?_
   conv=>whnf
   rw[h4];refine dec_not (fun X=>?_) fun X=>?_
   .conv=>whnf
    rw[h4];refine dec_not (fun Z=>?_) fun Z=>?_;exact ab 3 _ (lt_succ_self _) ⟨.inr<|.inr ⟨rfl,W,ne_of_lt X⟩,_,_,rfl⟩;exact False.elim<|Z X
   .conv=>whnf
    rw[h4];refine dec_not (fun Z=>?_) fun Z=>?_
    .conv=>whnf
     rw[h4];refine dec_not (fun T=>?_) fun T=>?_;exact False.elim<|X T
     .conv=>whnf
      rw[h4];refine dec_not (fun R=>?_) fun R=>?_;exact ab 3 _ (lt_succ_self _) ⟨.inr<|.inr ⟨rfl,W,Ne.symm<|ne_of_lt Z⟩,_,_,rfl⟩;exact False.elim<|R Z
    .refine eK rfl<|xe (bQ) (bQ) ?_;intro a V;refine bm _ _<|k a _ (aw V)<|(aD).trans ?_;have:d=98:=bR ((aF 0x18839814c41c808101) Z)<|(aF 0xc41c808140188398101) X;simp[this];rfl
  .exact kg (c:=93) rfl<|M ⟨W,O,_,_,rfl⟩
noncomputable def HX:Option Nat->Int|some b=>b|none=>-1
theorem HY(c:aQ C ax)(R:n<=87){p i d}(ok:dT p)(aj:i<p.length)(k:∀Q,Ext h Q->P (.ae<|HX<|jp p i d) Q):C n none (.Y 420) [.S p,.ae i,.S [d]] P E h:=by
 have X:=ok.1;obtain⟨e,he⟩:∃e,p[i]?=some e:=⟨_,List.getElem?_eq_getElem aj⟩;have W:c9 (i:Int) p=some e:=gV.trans he;unfold jp at k;rw[he]at k;dsimp only at k;refine c.fn rfl (af R) ?_;refine de W cL ((az nY) aj X) ?_
 conv=>whnf
 rw[show decide (([e]:aa)=[63])=decide (e=63) by simp];refine a9 (fun V=>?_) fun V=>?_
 .rw[if_neg V]at k;refine de W cL ((az nY) aj X) ?_
  conv=>whnf
  rw[show decide (([e]:aa)=[91])=decide (e=91) by simp];refine a9 (fun U=>?_) fun U=>?_
  .rw[if_neg U]at k;refine de W cL ((az nY) aj X) ?_
   conv=>whnf
   rw[show decide (([e]:aa)=[92])=decide (e=92) by simp];refine a9 (fun T=>?_) fun T=>?_
   .rw[if_neg T]at k;refine fz (po p i) (af X) (d4<|⟨(aF g5),((az nY) aj X)⟩) (d4<|⟨(aF gH),((az 0x7d0288881010020460000000000000003f3024028172) aj X)⟩) ?_
    conv=>whnf
    rw[nh,he];refine a9 (fun Z=>?_) fun Z=>?_;rw[if_neg fun e=>Z<|congrArg _ e]at k;exact k _ Ext.rfl;exact((if_pos<|a2 Z)▸k) _ Ext.rfl
   .rw[if_pos T]at k;refine fz (po p<|i+1) (af X) (d4<|⟨(aF gH),((az 0x7d0288881010020460000000000000003f3024028172) aj X)⟩) (d4<|⟨(aF 0x8130240250000000000000001f981f0),((az 0x1f40a2220404008118000000000000000fcc098120128172) aj X)⟩) ?_
    conv=>whnf
    rw[nh];refine a9 (fun Z=>?_) fun Z=>?_;exact((if_neg Z)▸k) _ Ext.rfl;exact((if_pos Z)▸k) _ Ext.rfl
  .rw[if_pos U]at k;obtain⟨rfl,rfl⟩:=ok.2 i<|he.trans<|a4 U;refine HW c (am R) fun a V O N=>?_;refine eY N ?_;refine a9 (fun Z=>?_) fun Z=>?_;exact((if_neg Z)▸k) _ O;exact((if_pos Z)▸k) _ O
 .exact((if_pos V)▸k) _ Ext.rfl
theorem HZ{aq}(s:List aq):gr (.ae<|-1) .a5 s=some s.getLast?.toList:=by
 have cl:clip s.length (-1)=s.length-1:=by
  unfold clip;rw[if_pos<|by exact Int.natCast_nonneg _];cases s.length with
  |zero=>rfl
  |succ n=>exact Z (show-1+((n+1:Nat):Int)=(n:Int) from(Int.add_comm _ _).trans zs)<|m8<|le_succ n
 show some ((s.take s.length).drop<|clip s.length<|-1)=_;rw[cl,take_length];congr 1;rcases eq_nil_or_concat s with rfl|⟨r,a,rfl⟩
 .rfl
 .simp
theorem sF(c:aQ C ax)(u:n<=86){p t}(ok:dT p)(ht:t.length<=16000000)(k:∀U,Ext h U->P (.aP<|bP p t) U):C n none (.Y 442) [.S p,.S t] P E h:=by
 have K:=ok.1;refine c.fn rfl (af u) ?_;refine c.len_str (af K) ?_;intro e a a3;refine sE c (am u) (es:=[]) (W:=0) K (aF 0x18100) (aD) (d8.nil p) fun H I Q x1 aj=>?_;have x1:Ext h H:=(aw a3).hB a3 x1;refine dI (fun F J=>iU fun(r T:aa)(a ep:Nat)(U:ar)(x y z w:Option V)=>fI (F=r.map (fun c=>V.S [c])) (Ext h U) (U a=some (.b2 (d7 T) ep)) (d8 p T) (∀U,Ext h U->P (.aP<|ng p r T) U)<|J=⟨[some<|.S p,some<|.S t,some<|.aP false,some<|.ae p.length,some<|.Y a,x,y,z,w],U⟩) ?_ ?_ ⟨t,pp p 0 [],a,I,H,none,none,none,none,rfl,x1,Q,aj,k,rfl⟩
 .rintro v ad Kb ab kb bm J ⟨r,T,a,ep,U,x,y,z,w,I,s,Q,aj,k,rfl⟩;cases r with
  |nil=>trivial
  |cons d r=>
   cases I;rw[HT]at k;show run _ _ (cf<|[_]++_) _ _ _ _ _ _;refine stmts (fun J=>¬(p.getLast?=some 42/\p.length-1∈T)/\J=⟨[some<|.S p,some<|.S t,some<|.aP false,some<|.ae p.length,some<|.Y a,some<|.S [d],y,z,w],U⟩) ?_ fun K2 k1=>?_
   .rintro J ⟨H,rfl⟩;rw[if_neg H]at k;intro e b hb;have xb:Ext U (U.set b (.b2 [] e)):=aw hb;refine Hb (xb _ _ Q) ?_;refine dI (fun F J=>ha fun(l G:aa)(ep2:Nat)(R:ar)(z w:Option V)=>fm (F=(d7 l).map (fun e=>V.ae e.1)) (∀i∈l,i<=p.length) (Ext U R) (R b=some (.b2 (d7 G) ep2)) (d8 p G) (l.foldl (fC p d) G=T.foldl (fC p d) [])<|J=⟨[some<|.S p,some<|.S t,some<|.aP false,some<|.ae p.length,some<|.Y a,some<|.S [d],some<|.Y b,z,w],R⟩) ?_ ?_ ⟨T,[],e,_,z,w,rfl,aj.2,xb,aD,d8.nil p,rfl,rfl⟩
    .rintro v ad Kb ab kb bm J ⟨l,G,ep2,R,z,w,I,hl,x2,M,L,hf,rfl⟩;cases l with
     |nil=>cases I
     |cons i l=>
      cases I;have B:=hl i<|.head _;have X:∀(A:aa)(m:Nat)(W:ar)(z w:Option V),A=fC p d G i->el b R W->W b=some (.b2 (d7 A) m)->dy (some (a,dM.b2 (d7 T) ep)) W/\(ha fun(l' g:aa)(a2:Nat)(f:ar)(z' w':Option V)=>fm ((d7 l).map (fun e=>V.ae e.1)=(d7 l').map (fun e=>V.ae e.1)) (∀i∈l',i<=p.length) (Ext U f) (f b=some (.b2 (d7 g) a2)) (d8 p g) (l'.foldl (fC p d) g=T.foldl (fC p d) []) ((⟨[some (.S p),some (.S t),some (.aP false),some (.ae p.length),some (.Y a),some (.S [d]),some (.Y b),z,w],W⟩:St)=⟨[some (.S p),some (.S t),some (.aP false),some (.ae p.length),some (.Y a),some (.S [d]),some (.Y b),z',w'],f⟩)):=by intro A m W z w N x3 q3;have xx:Ext U W:=x2.hB hb x3;refine⟨xx _ _ Q,l,A,m,W,z,w,rfl,fun j hj=>hl j<|.tail _ hj,xx,q3,?_,?_,rfl⟩;exact Z N<|HV ok B L;exact Z N<|aW hf rfl
      unfold fC at X;refine fz (po p i) (af K) (d4<|⟨(aF g5),((az 0x44087d028808108000000000000000fc888172) K B)⟩) (d4<|⟨(aF gH),((az 0x11021f40a2020420000000000000003f3024428172) K B)⟩) ?_
      conv=>whnf
      rw[nh];refine a9 (fun W=>?_) fun W=>?_
      .rw[if_neg W]at X;refine a9 (fun h4=>?_) fun h4=>?_;have a4:p[i]?=none:=List.getElem?_eq_none<|Int.ofNat_le.mp<|Int.not_lt.mp h4;rw[show jp p i d=none by unfold jp;exact Z a4 rfl]at X;obtain⟨N,D⟩:=X G ep2 R _ _ rfl (fun O O O e=>e) M;exact(ab _ N D)
       .skip;refine HY c (am u) ok (Int.ofNat_lt.mp h4) fun h4 x4=>?_;have a1:=x4 _ _ M;rcases q:jp p i d with _|j
        .
         rw[q]at X;obtain⟨N,D⟩:=X G ep2 h4 _ _ rfl (fun O O O e=>x4 _ _ e) a1;exact(ab _ N D)
        .
         rw[q]at X;have hj:=xN ok q;refine sE c (am u) K hj a1 L fun h5 e5 a0 x5 a5=>?_;obtain⟨N,D⟩:=X _ e5 h5 _ _ rfl (fun b' o a6 e=>x5 _ _ a6<|x4 _ _ e) a0;exact(ab _ N D)
      .rw[if_pos W]at X;refine sE c (am u) K B M L fun h5 e5 a0 x5 a5=>?_;obtain⟨N,D⟩:=X _ e5 h5 _ _ rfl x5 a0;exact(ab _ N D)
    .rintro J ⟨l,G,ep2,R,z,w,I,hl,x2,M,L,hf,rfl⟩;cases l with
     |cons i l=>cases I
     |nil=>
      subst hf;refine G7 M (by rw[sB];have:=L.len;exact((az 0x10240211021f40a20204200000064888102) K this)) ?_;rw[show decide (d7 (T.foldl (fC p d) [])≠[])=decide (T.foldl (fC p d) []≠[]) by simp[d7]];refine ge (fun W=>?_) fun W=>?_
      .have W:T.foldl (fC p d) []≠[]:=by simpa using W
       rw[if_neg W]at k;exact(ab _ trivial ⟨r,_,b,ep2,R,_,_,_,_,rfl,s.trans x2,M,L,k,rfl⟩)
      .have W:T.foldl (fC p d) []=[]:=by simpa using W
       exact bm _ _<|((if_pos W)▸k) _<|s.trans x2
   .refine fz (HZ p) (af K) rfl rfl ?_
    conv=>whnf
    rw[nh];refine a9 (fun H=>?_) fun H=>?_;exact k1 ⟨fun q=>H q.1,rfl⟩
    .have a7:0<p.length:=by cases p with|nil=>trivial|cons _ _=>exact succ_pos _
     conv=>whnf
     rw[show((p.length:Int)-1)=((p.length-1:Nat):Int) from(Int.ofNat_sub a7).symm];refine xa Q ?_;rw[xL];refine a9 (fun R=>?_) fun R=>?_;exact k1 ⟨fun q=>R q.2,rfl⟩;rw[if_pos ⟨H,R⟩]at k;exact bm _ _<|k _ s
 .rintro J ⟨r,T,a,ep,U,x,y,z,w,I,s,Q,aj,k,rfl⟩;cases r with|cons d r=>trivial|nil=>refine xa Q ?_;rw[xL];exact k _ s
theorem H0(c:aQ C ax)(R:n<=85){X:List aa}{q t}(ok:∀p∈X,dT p)(L:t.length<=16000000)(Q:h q=some (.ag<|X.map .S))(k:∀Z,Ext h Z->P (.aP<|X.any fun p=>bP p t) Z):C n none (.Y 610) [.Y q,.S t] P E h:=by
 refine c.fn rfl (af R) ?_;refine hx Q ?_;refine dI (fun W J=>cP fun(l:List aa)(Z:ar)(x:Option V)=>eE (W=l.map .S) (Ext h Z) (∀p∈l,dT p) (∀Z,Ext h Z->P (.aP<|l.any fun p=>bP p t) Z)<|J=⟨[some<|.Y q,some<|.S t,x],Z⟩) ?_ ?_ ⟨X,h,none,rfl,Ext.rfl,ok,k,rfl⟩
 .rintro v ad H ab G bm J ⟨l,Z,x,O,U,ok,k,rfl⟩;cases l with
  |nil=>trivial
  |cons p l=>
   cases O;rw[any_cons]at k;refine sF c (am R) (ok p<|.head _) L fun N K=>?_;have T:Ext h N:=U.trans K;cases M:bP p t with
   |true=>exact bm _ _<|(M▸k) _ T
   |false=>rw[M]at k;exact(ab _ (T _ _ Q) ⟨l,N,_,rfl,T,fun p I=>ok p<|.tail _ I,k,rfl⟩)
 .rintro J ⟨l,Z,x,O,U,ok,k,rfl⟩;cases l with|cons p l=>trivial|nil=>exact k _ U
end
end
def iG(d:bk)(ac:List aa):bk:=ac.foldl (fun d k=>del k d) d
def putD(d e:bk):bk:=e.foldl (fun d p=>put p.1 p.2 d) d
noncomputable def fg(t:aa)(ac:List aa):Except cb aa:=(a0 t).map fun d=>bg<|iG d ac
noncomputable def mergeF(a b:aa):Except cb aa:=match a0 a with|.error e=>.error e|.ok ni=>match a0 b with|.error e=>.error e|.ok db=>.ok (if db=[]then a else bg (putD ni db))
noncomputable def g1(t:aa):Except cb aa:=(a0 t).map bg
def en(t k:aa):Except cb aa:=match a0 t with
 |.error e=>.error e
 |.ok d=>match aH k d with
  |none=>.error<|lx k
  |some v=>.ok v
def iH(t k v:aa):Except cb aa:=(a0 t).map fun d=>(aH k d).getD v
noncomputable def nj(t k:aa):Bool:=match en t k with|.ok _=>true|.error _=>false
noncomputable def pq(t:aa):Except cb aa:=(a0 t).map fun d=>dm (d.map (·.1))
noncomputable def ps(t p:aa):Except cb aa:=(a0 t).map fun d=>dm ((d.map (·.1)).filter<|bP p)
noncomputable def pt(t p:aa):Except cb aa:=(a0 t).map fun d=>dm ((d.map (·.2)).filter<|bP p)
noncomputable def h5(t:aa)(f:aa->aa->Bool):Except cb aa:=(a0 t).map fun d=>bg<|d.filter fun p=>f p.1 p.2
theorem H1:∀(ac:List aa)(d:bk),bH (iG d ac)<=bH d:=by
 intro ac;induction ac with
 |nil=>intro d;exact Nat.le_refl _
 |cons k r ab=>intro d;exact bp (ab<|del k d)<|nd k d
theorem sG:∀(e d:bk),bH (putD d e)<=bH d+bH e:=by
 intro e;induction e with
 |nil=>intro d;exact Nat.le_refl _
 |cons pp r ab=>obtain⟨k,v⟩:=pp;intro d;have Z:=ab<|put k v d;have Y:=e0 k v d;rw[hA];exact((fK 0x8085420502661211020404201021010a840a04c82461008102) Z Y)
theorem H2:∀(e:bk){d:bk},(d.map (·.1)).Nodup->((putD d e).map (·.1)).Nodup:=by
 intro e;induction e with
 |nil=>intro O h;exact h
 |cons pp r ab=>obtain⟨k,v⟩:=pp;intro d h;exact ab<|ek h
theorem pu(f):∀l:List aa,b3 (l.filter f)<=b3 l:=by
 intro l;induction l with
 |nil=>exact Nat.le_refl _
 |cons a r ab=>have:=ab;rw[filter_cons];split<;>simp only[na]<;>first|exact Nat.add_le_add_left this _|exact bp this<|aL
theorem pv:∀d:bk,2*b3 (d.map (·.1))+4*d.length<=bH d:=by
 intro d;induction d with
 |nil=>exact Nat.le_refl _
 |cons pp r ab=>obtain⟨a,b⟩:=pp;have:=ab;simp only[map_cons,na,hA,length_cons];exact((bV 0x101101b01026a0420214061409904a0488501b0061409a8101) this)
theorem xP:∀d:bk,2*b3 (d.map (·.2))+4*d.length<=bH d:=by
 intro d;induction d with
 |nil=>exact Nat.le_refl _
 |cons pp r ab=>obtain⟨a,b⟩:=pp;have:=ab;simp only[map_cons,na,hA,length_cons];exact((bV 0x101101b01026a0420213081409904a0488501b0061409a8101) this)
theorem H3(f):∀d:bk,bH (d.filter f)<=bH d:=by
 intro d;induction d with
 |nil=>exact Nat.le_refl _
 |cons pp r ab=>obtain⟨a,b⟩:=pp;have:=ab;rw[filter_cons];split<;>simp only[hA]<;>first|exact Nat.add_le_add_right (Nat.add_le_add_right this _) _|exact bp this<|bp (le_add_right _ _)<|le_add_right _ _
theorem H4(f):∀{d:bk},(d.map (·.1)).Nodup->((d.filter f).map (·.1)).Nodup:=fun{d} h=>List.Nodup.sublist (List.Sublist.map _ filter_sublist) h
section
open PySem
section
variable{C:eW}{ax:Nat->Option (List V)}{n:Nat}{U:Option Nat}{P:a3 V}{E:a3 Nat}{h:ar}
theorem H5(c:aQ C ax)(X:n<=78){H q Q bq t k v}(R:t.length<=100000)(I:k.length<=100000)(G:v.length<=100000)(W:h q=some (.ag [.S Q,.S bq,.S t,.S k,.S v]))(F:∀r Z,cZ t k v=.ok r->Ext h Z->P (.S r) Z)(D:∀e Z V a7,cZ t k v=.error V->cq h Z e a7 V->E e Z):C n none (.Y 463) [.Y H,.Y q] P E h:=by refine c.fn rfl (af X) ?_;refine c.len_list W (a1) ?_;refine c.len_list W (a1) ?_;refine⟨aU,?_⟩;refine a9 (fun O=>?_) (fun T=>absurd T<|by simp only[length_cons,length_nil];exact aU);refine bj W (v:=.S t) rfl ?_;refine dS c (am X) (af R) (fun a T d ep U N B M=>?_) fun e T V a7 U y=>D e T V a7 (a4 U) y;have L:=cH U;have K:=e0 k v d;refine HS c (am X) (ws:=[Q,bq,t,k,v]) (l:=[k,v]) (lo:=3) M (N _ _ W) rfl (a1) (by simp) (aL) ((aT 0xc0d90808c4409a810c35011203030f4240284840402) R L) fun w u A J=>?_;refine g0 c (am X) J (ek<|cG U) (show bH (put k v d)<=_ by exact((bV tz) R I G L K)) fun z x=>?_;exact F _ z (a4 U)<|(N.hB B A).trans x
theorem H6(c:aQ C ax)(K:n<=78){H q g bq t ac}(D:t.length<=100000)(N:ac.length<=100000)(I:h q=some (.ag<|([g,bq,t]++ac).map .S))(f:∀r Z,fg t ac=.ok r->Ext h Z->P (.S r) Z)(ke:∀e Z Q a7,fg t ac=.error Q->cq h Z e a7 Q->E e Z):C n none (.Y 470) [.Y H,.Y q] P E h:=by
 refine c.fn rfl (af K) ?_;refine c.len_list I (by simp;exact af N) ?_;refine bj I (v:=.S t) rfl<|dS c (am K) (af D) (fun a O d ep U B ha X=>?_) (fun e O Q a7 U y=>ke e O Q a7 (a4 U) y);have T:=cH U;refine ej (t:=ac.map .S) (B _ _ I) (lu (a:=3)<|a1) (by simp;exact af N) rfl rfl ?_;intro p A;have z:=bv A X;refine hx (aD) ?_;have W:∀Z,Ext h Z->P (.S (bg (iG d ac))) Z:=fun Z x=>f _ Z (a4 U) x;have w:Ext O (O.set p (.ag (ac.map .S))):=aw A;refine dI (fun G J=>gJ fun(l:List aa)(d:bk)(ep:Nat)(Z:ar)(x:Option V)=>hb (G=l.map .S) (Ext h Z) (Z p=some (.ag<|ac.map .S)) (Z a=some (.av (br d) ep)) ((d.map (·.1)).Nodup) (bH d<=600000) (∀Z,Ext h Z->P (.S<|bg<|iG d l) Z)<|J=⟨[some<|.Y H,some<|.Y q,some<|.Y a,x],Z⟩) ?_ ?_ ⟨ac,d,ep,_,none,rfl,Ext.trans B w,aD,w _ _ X,cG U,((az 0x181b1102186a02240606124f8050888102) D T),W,rfl⟩;rintro v ad Kb ab kb bm J ⟨l,d,ep,Z,x,s,F,M,X,aC,T,W,rfl⟩;cases l with|nil=>trivial|cons k l=>cases s;refine lq X<|sA X ((az 0x124f805088808c0409a810f42400304440401) T) fun u m j i L=>?_;have R:j p=some (.ag (ac.map .S)):=(L _ z.symm).trans M;refine(ab _ R ⟨l,del k d,m,j,_,rfl,?_,R,i,nf aC,bp (nd k d) T,W,rfl⟩);exact F.hB ha fun b o a0 e=>(L _ a0).trans e
 .rintro J ⟨l,d,ep,Z,x,s,F,M,X,aC,T,W,rfl⟩;cases l with|cons k l=>trivial|nil=>refine g0 c (am K) X aC (show bH _<=_ by exact af T) fun h3 x3=>?_;exact W h3<|F.trans x3
theorem H7(c:aQ C ax)(W:n<=78){H q M bq t}(T:t.length<=100000)(V:h q=some (.ag [.S M,.S bq,.S t]))(L:∀r Z,g1 t=.ok r->Ext h Z->P (.S r) Z)(K:∀e Z X a7,g1 t=.error X->cq h Z e a7 X->E e Z):C n none (.Y 484) [.Y H,.Y q] P E h:=by refine c.fn rfl (af W) ?_;refine c.len_list V (a1) ?_;refine bj V (v:=.S t) rfl ?_;refine dS c (am W) (af T) (fun a R d ep U Q F O=>?_) fun e R X a7 U y=>K e R X a7 (a4 U) y;have J:=cH U;refine ej (t:=[]) (Q _ _ V) rfl (a1) rfl rfl ?_;intro p N;refine HN c (am W) (aw N _ _ O) (aD) (cG U) (show bH _<=_ by exact((az 0xc0d88810c35011203030f424005c888102) T J)) fun I G=>?_;exact L _ I (a4 U)<|(Q.trans<|aw N).trans G
theorem H8(c:aQ C ax)(V:n<=78){H q J bq t k}(I:t.length<=100000)(G:k.length<=100000)(T:h q=some (.ag [.S J,.S bq,.S t,.S k]))(F:∀r X,en t k=.ok r->Ext h X->P (.S r) X)(M:∀e X W a7,en t k=.error W->cq h X e a7 W->E e X):C n none (.Y 484) [.Y H,.Y q] P E h:=by
 refine c.fn rfl (af V) ?_;refine c.len_list T (a1) ?_;refine bj T (v:=.S t) rfl ?_;refine dS c (am V) (af I) (fun a L d ep U R B K=>?_) (fun e L W a7 U y=>M e L W a7 (by unfold en;exact Z U rfl) y);refine ej (t:=[.S k]) (R _ _ T) rfl (a1) rfl rfl ?_;intro p Q;refine xH c (am V) (af G) (aw Q _ _ K) (aD) (fun v O N D=>?_) fun e O N y=>?_
 .exact F _ O (by unfold en;rw[U];dsimp only;exact Z N rfl)<|(R.trans<|aw Q).trans D
 .exact M e O _ {} (by unfold en;rw[U];dsimp only;exact Z N rfl)<|y.pre<|R.trans<|aw Q
theorem H9(c:aQ C ax)(V:n<=78){H q J bq t k}(I:t.length<=100000)(G:k.length<=100000)(T:h q=some (.ag [.S J,.S bq,.S t,.S k]))(W:∀X,Ext h X->P (.S (if nj t k then[49]else[48])) X):C n none (.Y 498) [.Y H,.Y q] P E h:=by
 unfold nj at W;refine c.fn rfl (af V) ?_;refine c.len_list T (a1) ?_;refine bj T (v:=.S t) rfl ?_;have bad:∀{e:Nat}{X:ar}{R:cb}{a7:hc},en t k=.error R->cq h X e a7 R->isExc X e 84/\P (.S [48]) X:=fun q y=>by rw[q]at W;refine y.p.elim fun d M=>?_;exact⟨⟨d,_,M.2.at_⟩,W _ y.ext⟩
 refine dS c (am V) (af I) (fun a F d ep U Q B L=>?_) fun e F R a7 U y=>?_
 .refine ej (t:=[.S k]) (Q _ _ T) rfl (a1) rfl rfl ?_;intro p O;refine xH c (am V) (af G) (aw O _ _ L) (aD) (fun v K N D=>?_) fun e K N y=>?_
  .rw[show en t k=.ok v by unfold en;rw[U];dsimp only;exact Z N rfl]at W;exact W K<|(Q.trans<|aw O).trans D
  .exact bad (by unfold en;rw[U];dsimp only;exact Z N rfl)<|y.pre<|Q.trans<|aw O
 .exact bad (by unfold en;exact Z U rfl) y
theorem Ia(c:aQ C ax)(N:n<=78){H q L bq t k v}(K:t.length<=100000)(W:h q=some (.ag [.S L,.S bq,.S t,.S k,.S v]))(J:∀r Z,iH t k v=.ok r->Ext h Z->P (.S r) Z)(I:∀e Z V a7,iH t k v=.error V->cq h Z e a7 V->E e Z):C n none (.Y 491) [.Y H,.Y q] P E h:=by
 refine c.fn rfl (af N) ?_;refine c.len_list W (a1) ?_;refine bj W (v:=.S t) rfl ?_;refine ej (t:=[]) W rfl (a1) rfl rfl ?_;intro p G;have M:Ext h (h.set p (.ag [])):=aw G;refine pn c (am N) (af K) (aD) (fun b a T d ep U R D B F Q O=>?_) fun e T V a7 U y=>I e T V a7 (a4 U)<|y.pre M;have R:Ext h T:=M.trans R;have X:=R _ _ W;refine c.len_list O (a1) ?_;refine c.len_list X (a1) ?_;refine bj O (v:=.Y a) rfl ?_;refine xc Q ?_;refine bj X (v:=.S k) rfl ?_;refine bj X (v:=.S v) rfl ?_;refine xf Q ?_;rw[dJ];have fin:=J ((aH k d).getD v) T (a4 U) R;rcases q:aH k d with _|u
 .rw[q]at fin;exact fin
 .rw[q]at fin;exact fin
theorem jq{aq pre r k}{v:aq}(aC:((pre++(k,v)::r).map (·.1)).Nodup):aH k (pre++(k,v)::r)=some v:=pj (p:=(k,v)) aC cw
theorem xQ(a b):bH (a++b)=bH a+bH b:=by unfold bH;rw[xA,ph,length_append];exact bR (bh 0x31011888134420230102691820a0231001409a8100)<|bh 0x302140464002813462023210268440460204d28100
theorem Ib(c:aQ C ax)(A:n<=78){H q w0 bq t u}(f:t.length<=100000)(hu:u.length<=100000)(z:h q=some (.ag [.S w0,.S bq,.S t,.S u]))(kv:∀r X,mergeF t u=.ok r->Ext h X->P (.S r) X)(ke:∀e X L a7,mergeF t u=.error L->cq h X e a7 L->E e X):C n none (.Y 477) [.Y H,.Y q] P E h:=by
 refine c.fn rfl (af A) ?_;refine c.len_list z (aL) ?_;refine bj z (v:=.S t) rfl ?_;refine dS c (am A) (af f) (fun a R d ep U x1 ha I=>?_) (fun e R L a7 U y=>ke e R L a7 (by unfold mergeF;exact Z U rfl) y);have hz:=cH U;refine ej (t:=[.S u]) (x1 _ _ z) rfl (aL) rfl rfl ?_;intro p hp;have a3:=bv hp I;refine hx (aD) ?_;have w:Ext R (R.set p (.ag [.S u])):=aw hp;refine dS c (am A) (af hu) (fun b h2 d2 ep2 Q x2 hb m=>?_) (fun e R L a7 Q y=>ke e R L a7 (by unfold mergeF;rw[U];exact Z Q rfl)<|y.pre<|x1.trans w);have k:=cH Q;have a5:=cG Q;have xx:Ext h h2:=(x1.trans w).trans x2;have a0:=(w.trans x2) _ _ I;have a1:=x2 _ _<|ar.at R p<|.ag [.S u];have j:b≠a:=(bv hb<|w _ _ I).symm;have a6:b≠p:=(bv hb<|ar.at R p<|.ag [.S u]).symm;refine gY m ?_;have fin:∀r X,r=(if d2=[]then t else bg (putD d d2))->Ext h X->P (.S r) X:=fun r X e x=>kv r X (by unfold mergeF;rw[U];exact Z Q<|Z e rfl) x;refine dI (fun a2 J=>ij fun(pre l K:bk)(G:Nat)(X:ar)(x:Option V)(s:Bool)=>fm (a2=(br l).map (fun e=>V.S e.1)) (s=decide (pre≠[])) (d2=pre++l) (K=putD d pre) (X a=some (.av (br K) G)) (el a h2 X)<|J=⟨[some<|.Y H,some<|.Y q,some<|.Y a,some<|.aP s,some<|.S u,some<|.Y b,x],X⟩) ?_ ?_ ⟨[],d2,d,ep,h2,none,false,rfl,rfl,rfl,rfl,a0,fun O O O e=>e,rfl⟩
 .rintro v ad Kb ab kb bm J ⟨pre,l,K,G,X,x,s,e1,F,W,T,N,D,rfl⟩;cases l with
  |nil=>trivial
  |cons i l=>
   obtain⟨kk,vv⟩:=i;cases e1;have hsz:bH K<=1200000:=by
    rw[T];have q1:=sG pre d;have q2:bH pre<=bH d2:=by rw[W,xQ];exact(az 0x1001008100)
    exact((fK 0xc288105041208101181b3102003036420430d404488c0c30d404480c0c249f0054a08106) f hu hz k q1 q2)
   have B:=D _ _ j m;refine dA B (v:=.S vv) (by rw[dJ,W,jq<|aW W a5];rfl) ?_;refine eB N (by rw[fB];exact((az 0x249f005488808c0409a810f42400304440401) hsz)) fun e=>?_;refine(ab _ ((bl j).trans B) ⟨pre++[(kk,vv)],l,put kk vv K,e,_,_,true,rfl,by simp,by rw[W];exact append_cons ..,?_,?_,?_,rfl⟩);rw[T];unfold putD;exact Z foldl_append rfl;rw[fU];exact aD;exact fun b' o g e=>(bl g).trans<|D _ _ g e
 .rintro J ⟨pre,l,K,G,X,x,s,e1,F,W,T,N,D,rfl⟩;cases l with
  |cons i l=>trivial
  |nil=>
   rw[append_nil]at W;subst W;have x3:Ext h X:=xx.hB ha D;refine⟨D _ _ a3.symm a1,?_⟩;subst F;refine ge (fun M=>?_) fun M=>?_
   .have M:d2≠[]:=by simpa using M
    rw[if_neg M]at fin;have q1:=sG d2 d;refine g0 c (am A) N (Z T<|H2 d2<|cG U) (show bH _<=_ by exact Z T<|(bV 0xc104820404606cc40800c0d90810c35011223030c35011203030f424005ca08105) f hu hz k q1) fun h4 x4=>?_;exact fin _ h4 (a4 T)<|x3.trans x4
   .have M:d2=[]:=by simpa using M
    rw[if_pos M]at fin;refine bj (x3 _ _ z) (v:=.S t) rfl ?_;exact fin _ _ rfl x3
theorem Ic(c:aQ C ax)(z:n<=78){H q w0 bq t}(w:t.length<=100000)(K:h q=some (.ag [.S w0,.S bq,.S t]))(kv:∀r X,pq t=.ok r->Ext h X->P (.S r) X)(ke:∀e X I a7,pq t=.error I->cq h X e a7 I->E e X):C n none (.Y 512) [.Y H,.Y q] P E h:=by
 refine c.fn rfl (af z) ?_;refine c.len_list K (a1) ?_;intro p hp;refine ei (aD) rfl (aL) ?_;intro o G;have m:Ext h (h.set p (.an [.ae 3,.ae 4])):=aw hp;have G:(h.set p (.an [.ae 3,.ae 4])) o=none:=G;have xo:Ext (h.set p (.an [.ae 3,.ae 4])) ((h.set p (.an [.ae 3,.ae 4])).set o (.ag [])):=aw G;have F:=m.trans xo;refine bj (F _ _ K) (v:=.S t) rfl ?_;refine dS c (am z) (af w) (fun a Q d ep U N ha D=>?_) fun e Q I a7 U y=>ke e Q I a7 (a4 U)<|y.pre F;have u:=cH U;have j:=pv d;have N:Ext ((h.set p (.an [.ae 3,.ae 4])).set o (.ag [])) Q:=N;refine gY D ?_;have B:h o=none:=m.fresh G;refine dI (fun s J=>er fun(l W:List aa)(X:ar)(x:Option V)=>eE (s=l.map .S) (d.map (·.1)=W++l) (X o=some (.ag<|W.map .S)) (el o Q X)<|J=⟨[some<|.Y H,some<|.Y q,some<|.Y o,x],X⟩) ?_ ?_ ⟨d.map (·.1),[],Q,none,by simp[br],rfl,N _ _<|aD,fun O O O e=>e,rfl⟩
 .rintro v ad Kb ab kb bm J ⟨l,W,X,x,i,T,R,M,rfl⟩;cases l with|nil=>trivial|cons k l=>cases i;have L:=bn List.length T;simp only[length_map,length_append,length_cons]at L;have g:q≠o:=bv B K;have A:a≠o:=bv ha (ar.at (h.set p<|.an [.ae 3,.ae 4]) o<|.ag [])|>.symm;refine c.len_list (M _ _ g<|(F.trans N) _ _ K) (a1) ?_;refine eL R ?_;refine eM R (by unfold bH at u;exact dr<|(bV 0x812811844202180c0d90808c4409a810c35011203030f42400304c40403) w u L) ?_;refine(ab _ ((bl A).trans<|M _ _ A D) ⟨l,W++[k],_,_,rfl,by rw[T];exact append_cons ..,?_,?_,rfl⟩);exact Z map_append<|aD;exact fun b o' f e=>(bl f).trans<|M _ _ f e
 .rintro J ⟨l,W,X,x,i,T,R,M,rfl⟩;cases l with|cons k l=>trivial|nil=>rw[append_nil]at T;subst T;have x3:Ext h X:=(F.trans N).hB B M;refine lz c (am z) R (by rw[length_map];exact((bh 0x83101b21026a0400606c440861a8089018187a12002e4c406c8409a8103) w u j)) fun h2 x2=>?_;exact kv _ h2 (a4 U)<|x3.trans x2
theorem Id(c:aQ C ax)(z:n<=78){H q w0 bq t Q}(ok:dT Q)(w:t.length<=100000)(u:h q=some (.ag [.S w0,.S bq,.S t,.S Q]))(kv:∀r T,ps t Q=.ok r->Ext h T->P (.S r) T)(ke:∀e T s a7,ps t Q=.error s->cq h T e a7 s->E e T):C n none (.Y 512) [.Y H,.Y q] P E h:=by
 refine c.fn rfl (af z) ?_;refine c.len_list u (a1) ?_;intro p hp;refine ei (aD) rfl (aL) ?_;intro o m;have xp:Ext h (h.set p (.an [.ae 3,.ae 4])):=aw hp;have m:(h.set p (.an [.ae 3,.ae 4])) o=none:=m;have xo:Ext (h.set p (.an [.ae 3,.ae 4])) ((h.set p (.an [.ae 3,.ae 4])).set o (.ag [])):=aw m;have j:=xp.trans xo;refine bj (j _ _ u) (v:=.S t) rfl ?_;refine dS c (am z) (af w) (fun a I d ep U G ha F=>?_) fun e I s a7 U y=>ke e I s a7 (a4 U)<|y.pre j;have i:=cH U;have f:=pv d;have G:Ext ((h.set p (.an [.ae 3,.ae 4])).set o (.ag [])) I:=G;refine gY F ?_;have a0:h o=none:=xp.fresh m;refine dI (fun a3 J=>er fun(l R:List aa)(T:ar)(x:Option V)=>fm (a3=l.map .S) ((d.map (·.1)).filter (bP Q)=R++l.filter (bP Q)) (R.length+l.length<=d.length) (∀k∈l,k.length<=600000) (T o=some (.ag<|R.map .S)) (el o I T)<|J=⟨[some<|.Y H,some<|.Y q,some<|.Y o,x],T⟩) ?_ ?_ ⟨d.map (·.1),[],I,none,by simp[br],rfl,by simp,fun k D=>by have:=su D;exact((bV 0x410408041880d90813502003036220430d404480c0c249f00a1410204) w i f this),G _ _<|aD,fun O O O e=>e,rfl⟩
 .rintro v ad Kb ab kb bm J ⟨l,R,T,x,e1,W,X,K,B,N,rfl⟩;cases l with
  |nil=>trivial
  |cons k l=>
   cases e1;simp only[length_cons]at X;have a5:q≠o:=bv a0 u;have A:a≠o:=bv ha (ar.at (h.set p<|.an [.ae 3,.ae 4]) o<|.ag [])|>.symm;have a2:=N _ _ a5<|(j.trans G) _ _ u;rw[filter_cons]at W;refine c.len_list a2 (a1) ?_;refine bj a2 (v:=.S Q) rfl ?_;refine sF c (am z) ok (by have:=K k<|.head _;exact af this) fun h2 M=>?_;have L:=M _ _ B;cases hf:bP Q k with
   |true=>rw[hf,if_pos rfl]at W;refine eL L ?_;refine eM L (by unfold bH at i;exact dr<|(bV 0x210250230a02000c0d90808c4409a810c35011203030f42400304c40403) w i X) ?_;refine(ab _ ((bl A).trans<|M _ _<|N _ _ A F) ⟨l,R++[k],_,_,rfl,by rw[W];exact append_cons ..,by simp;exact((aT 0x210244200a0408088120128101) X),fun k D=>K k<|.tail _ D,?_,?_,rfl⟩);exact Z map_append<|aD;exact fun b o' g e=>(bl g).trans<|M _ _<|N _ _ g e
   |false=>rw[hf,if_neg<|of_decide_eq_true rfl]at W;exact(ab _ (M _ _<|N _ _ A F) ⟨l,R,h2,_,rfl,W,((aT 0x8409108028102020028101) X),fun k D=>K k<|.tail _ D,L,fun b o' g e=>M _ _<|N _ _ g e,rfl⟩)
 .rintro J ⟨l,R,T,x,e1,W,X,K,B,N,rfl⟩;cases l with|cons k l=>trivial|nil=>rw[filter_nil,append_nil]at W;subst W;have x3:Ext h T:=(j.trans G).hB a0 N;have q1:=pu (bP Q) (d.map (·.1));have q2:=length_filter_le (bP Q) (d.map (·.1));rw[length_map]at q2;refine lz c (am z) B ((gM 0x20c2040614205018083101b21026a0400606c440861a8089018187a12002e50406d8409a8105) w i f X q1) fun h2 M=>?_;exact kv _ h2 (a4 U)<|x3.trans M
theorem Ie(c:aQ C ax)(u:n<=78){H q w0 bq t Q}(ok:dT Q)(s:t.length<=100000)(m:h q=some (.ag [.S w0,.S bq,.S t,.S Q]))(kv:∀r W,pt t Q=.ok r->Ext h W->P (.S r) W)(ke:∀e W j a7,pt t Q=.error j->cq h W e a7 j->E e W):C n none (.Y 519) [.Y H,.Y q] P E h:=by
 refine c.fn rfl (af u) ?_;refine c.len_list m (a1) ?_;intro p hp;refine ei (aD) rfl (aL) ?_;have xp:Ext h (h.set p (.an [.ae 3,.ae 4])):=aw hp;refine bj (xp _ _ m) (v:=.S t) rfl ?_;refine dS c (am u) (af s) (fun a N d ep U F ha D=>?_) fun e N j a7 U y=>ke e N j a7 (a4 U)<|y.pre xp;have F:Ext h N:=xp.trans F;intro o B;have B:N o=none:=B;have i:=cH U;have a5:=xP d;have xo:Ext N (N.set o (.ag [])):=aw B;have aC:=cG U;refine gY (xo _ _ D) ?_;have f:h o=none:=F.fresh B;refine dI (fun a3 J=>gJ fun(pre l:bk)(T:List aa)(W:ar)(x:Option V)=>fm (a3=(br l).map (fun e=>V.S e.1)) (d=pre++l) ((d.map (·.2)).filter (bP Q)=T++(l.map (·.2)).filter (bP Q)) (T.length<=pre.length) (W o=some (.ag<|T.map .S)) (el o N W)<|J=⟨[some<|.Y H,some<|.Y q,some<|.Y a,some<|.Y o,x],W⟩) ?_ ?_ ⟨[],d,[],_,none,rfl,rfl,rfl,Nat.le_refl _,aD,fun b o' A e=>xo _ _ e,rfl⟩
 .rintro v ad Kb ab kb bm J ⟨pre,l,T,W,x,e1,R,X,O,z,I,rfl⟩;cases l with
  |nil=>trivial
  |cons a6 l=>
   obtain⟨g,M⟩:=a6;cases e1;have a8:q≠o:=bv f m;have a0:a≠o:=bv B D;have a2:=I _ _ a8<|F _ _ m;have w:=I _ _ a0 D;have hl:aH g (br d)=some (.S M):=by rw[dJ,R,jq<|aW R aC];rfl
   have a9:M.length<=600000:=by have:=lB (p:=(g,M)) (d:=d)<|Z R cw;dsimp only at this;exact((bh 0x440426082813502003036220430d404480c0c249f00a1310203) s i this)
   have ac:d.length<=600000:=by unfold bH at i;exact((aT lY) s i)
   have ah:pre.length+1<=d.length:=Z R<|ik<|Nat.le_refl _;rw[map_cons,filter_cons]at X;dsimp only at X;refine c.len_list a2 (a1) ?_;refine bj a2 (v:=.S Q) rfl ?_;refine dA w hl ?_;refine sF c (am u) ok (af a9) fun h2 G=>?_;have L:=G _ _ z;have K:=G _ _ w;cases hf:bP Q M with
   |true=>rw[hf,if_pos rfl]at X;refine eL L ?_;refine dA K hl ?_;refine eM L (dr<|(aT 0x2102442810927c028484080801021e8480060808103) O ac ah) ?_;refine(ab _ ((bl a0).trans K) ⟨pre++[(g,M)],l,T++[M],_,_,rfl,by rw[R];exact append_cons ..,by rw[X];exact append_cons ..,by simp;exact O,?_,?_,rfl⟩);exact Z map_append<|aD;exact fun b o' A e=>(bl A).trans<|G _ _<|I _ _ A e
   |false=>rw[hf,if_neg<|of_decide_eq_true rfl]at X;exact(ab _ K ⟨pre++[(g,M)],l,T,h2,_,rfl,by rw[R];exact append_cons ..,X,by simp;exact(le_succ_of_le O),L,fun b o' A e=>G _ _<|I _ _ A e,rfl⟩)
 .rintro J ⟨pre,l,T,W,x,e1,R,X,O,z,I,rfl⟩;cases l with|cons k l=>trivial|nil=>rw[map_nil,filter_nil,append_nil]at X;subst X;have x3:Ext h W:=F.hB f I;have q1:=pu (bP Q) (d.map (·.2));have q2:=length_filter_le (bP Q) (d.map (·.2));rw[length_map]at q2;refine lz c (am u) z ((fK 0xc2880c0820810083101b21026a0400606c440861a8089018187a12002e54406d0409a8105) s i a5 q1 q2) fun h2 G=>?_;exact kv _ h2 (a4 U)<|x3.trans G
noncomputable def h6:aa:=[107,101,121]
noncomputable def iI:aa:=lU
noncomputable def dU:aa:=fH
theorem lE{aq k v}:∀{d:List (aa×aq)},k∉d.map (·.1)->put k v d=d++[(k,v)]:=by
 intro d;induction d with
 |nil=>intro O;exact rfl
 |cons pp r ab=>obtain⟨a,b⟩:=pp;intro h;exact(if_neg fun e=>h<|by rw[<-e];exact .head _).trans<|a4<|ab fun q=>h<|.tail _ q
theorem xR(c:aQ C ax)(V:n<=88){q w g}(U:g=h6\/g=iI\/g=dU)(X:h q=some (.an [.S h6,.S iI,.S dU]))(k:∀W,Ext h W->P (.S g) W):C n none (.Y 160) [.S w,.S g,.Y q] P E h:=by
 refine c.fn rfl (af V) ?_;intro o T;have Z:Ext h (h.set o (.ag [])):=aw T;refine si (Z _ _ X) ?_;rcases U with rfl|rfl|rfl
 .exact k _ Z
 .refine eK rfl<|lr<|⟨Z _ _ X,?_⟩;exact k _ Z
 .refine eK rfl<|lr<|⟨Z _ _ X,?_⟩;refine eK rfl<|lr<|⟨Z _ _ X,?_⟩;exact k _ Z
theorem Ig(c:aQ C ax)(j:n<=78){H q w0 bq t g N M}(aj:dT N)(ak:dT M)(i:t.length<=100000)(hg:g=h6\/g=dU)(f:h q=some (.ag [.S w0,.S bq,.S t,.S g,.S N,.S M]))(kv:∀r X,h5 t (fun k v=>[N,M].any fun p=>bP p (if g=dU then v else k))=.ok r->Ext h X->P (.S r) X)(ke:∀e X B a7,h5 t (fun k v=>[N,M].any fun p=>bP p (if g=dU then v else k))=.error B->cq h X e a7 B->E e X):C n none (.Y 617) [.Y H,.Y q] P E h:=by
 refine c.fn rfl (af j) ?_;refine c.len_list f (aL) ?_;refine bj f (v:=.S g) rfl ?_;intro p u;have xp:Ext h (h.set p (.an [.S h6,.S iI,.S dU])):=aw u;refine xR c (am j) (by rcases hg with q|q<;>simp[q]) (aD) fun h1 x1=>?_;have x1:Ext h h1:=xp.trans x1;have b3:decide (g=iI)=false:=by rcases hg with q|q<;>subst q<;>rfl
 refine a9 (fun O=>?_) (fun G=>absurd G (by rcases hg with q|q<;>subst q<;>exact aU));refine bj (x1 _ _ f) (v:=.S t) rfl ?_;refine dS c (am j) (af i) (fun a h2 d ep U x2 ha a0=>?_) fun e h1 B a7 U y=>ke e h1 B a7 (a4 U)<|y.pre x1;intro e0 o ho;have x2:Ext h h2:=x1.trans x2;have xo:Ext h2 (h2.set o (.av (List.zip [] []) e0)):=aw ho;have hz:=cH U;have aC:=cG U;refine gY (xo _ _ a0) ?_;have a2:h o=none:=x2.fresh ho;have fin:∀(r:bk) X,r=d.filter (fun p=>[N,M].any fun x=>bP x (if g=dU then p.2 else p.1))->Ext h X->P (.S (bg r)) X:=fun r X B x=>kv _ X (by unfold h5;exact Z U<|Z B rfl) x;have al:d.length<=600000:=((aT lY) i hz);have hsz:∀r:bk,r=d.filter (fun p=>[N,M].any fun x=>bP x (if g=dU then p.2 else p.1))->bH r<=600000/\(r.map (·.1)).Nodup:=fun r B=>Z B ⟨bp (H3 _ _)<|(az 0x181b1102186a02240606124f8050888102) i hz,H4 _ aC⟩;generalize hF:(fun p:aa×aa=>[N,M].any fun x=>bP x (if g=dU then p.2 else p.1))=F at fin hsz;refine dI (fun ac J=>ij fun(pre l W:bk)(ep2:Nat)(X:ar)(x y:Option V)=>fI (ac=(br l).map (fun e=>V.S e.1)) (d=pre++l) (W=pre.filter F) (X o=some (.av (br W) ep2)) (el o h2 X)<|J=⟨[some<|.Y H,some<|.Y q,some<|.S g,some<|.Y a,some<|.Y o,x,y],X⟩) ?_ ?_ ⟨[],d,[],e0,_,none,none,rfl,rfl,rfl,aD,fun b o' hb e=>xo _ _ e,rfl⟩
 .rintro v ad Kb ab kb bm J ⟨pre,l,W,ep2,X,x,y,e1,T,R,A,m,rfl⟩;cases l with
  |nil=>trivial
  |cons ao l=>
   obtain⟨Q,K⟩:=ao;cases e1;have ap:q≠o:=bv a2 f;have a3:a≠o:=bv ho a0;have aq:=m _ _ ap<|x2 _ _ f;have D:=m _ _ a3 a0;have hl:aH Q (br d)=some (.S K):=by rw[dJ,T,jq<|aW T aC];rfl
   have a1:Q.length<=600000/\K.length<=600000:=by have:=lB (p:=(Q,K)) (d:=d)<|Z T cw;exact⟨((bh 0x440426082813502003036220430d404480c0c249f00a1210203) i hz this),((bh 0x440426082813502003036220430d404480c0c249f00a1310203) i hz this)⟩
   have ah:W.length<=d.length:=by rw[R,T,length_append];have:=length_filter_le F pre;exact((aT 0x4008102021008101) this)
   have as:Q∉W.map (·.1):=by rw[R];intro hm;obtain⟨z,au,ay⟩:=mem_map.mp hm;have b0:=(mem_filter.mp au).1;rw[T,map_append,nodup_append]at aC;exact aC.2.2 _ (List.mem_map_of_mem b0) Q (.head _) ay
   have ai:∀{z:aa}{L:cc}{K2:cT}{F2:KF}{X2:du},L=[some (.Y H),some (.Y q),some (.S g),some (.Y a),some (.Y o),some (.S Q),some (.S z)]->z=(if g=dU then K else Q)->
     (∀{l0:cc}{h0:ar},(dy (some (a,dM.av (br d) ep)) h0/\ij fun(pre l' W:bk)(ep2:Nat)(X:ar)(x y:Option V)=>fI ((br l).map (fun e=>V.S e.1)=(br l').map (fun e=>V.S e.1)) (d=pre++l') (W=pre.filter F) (X o=some (.av (br W) ep2)) (el o h2 X)<|(⟨l0,h0⟩:St)=⟨[some<|.Y H,some<|.Y q,some<|.S g,some<|.Y a,some<|.Y o,x,y],X⟩)->K2 [] l0 h0)->
     run (eh C ax<|n+1) none (cf [.aB (.bW (.k<|.Y 610) [(.aJ (.x 1) (.k<|.ae 4)<|.k .a5),(.x 6)]) [.c0 (.x 4) (.x 5)<|.aE (.x 3)<|.x 5] []]) K2 F2 X2 [] L X:=by
    intro z L K2 F2 X2 hL w a6;subst hL;refine ej (t:=[.S N,.S M]) aq rfl (aL) rfl rfl ?_;intro s hs;have xs:Ext X (X.set s (.ag [.S N,.S M])):=aw hs;have b1:z.length<=16000000:=by rw[w];split;exact af a1.2;exact af a1.1
    refine H0 c (am j) (X:=[N,M]) (by intro p u;rcases bU u with rfl|u;exact aj;rw[mem_singleton]at u;subst u;exact ak) b1 (aD) fun G I=>?_;have I:Ext X G:=xs.trans I;have b2:([N,M].any fun p=>bP p z)=F (Q,K):=aW hF<|Z w rfl;rw[b2];cases hf:F (Q,K)with
    |true=>refine dA (I _ _ D) hl ?_;refine eB (I _ _ A) (by rw[fB];exact((az 0x2204249f00a101021e8480060888102) al ah)) fun e=>?_;refine a6 ⟨(bl a3).trans<|I _ _ D,pre++[(Q,K)],l,W++[(Q,K)],e,_,_,_,rfl,by rw[T];exact append_cons ..,by rw[filter_append,R];simp[hf],?_,fun b o' hb e=>(bl hb).trans<|I _ _<|m _ _ hb e,rfl⟩;rw[fU,lE as];exact aD
    |false=>exact a6 ⟨I _ _ D,pre++[(Q,K)],l,W,ep2,G,_,_,rfl,by rw[T];exact append_cons ..,by rw[filter_append,R];simp[hf],I _ _ A,fun b o' hb e=>I _ _<|m _ _ hb e,rfl⟩
   show run _ _ (cf<|[_,_]++_) _ _ _ _ _ _;refine stmts (fun J=>∃z,z=(if g=dU then K else Q)/\J=⟨[some<|.Y H,some<|.Y q,some<|.S g,some<|.Y a,some<|.Y o,some<|.S Q,some<|.S z],X⟩) ?_ fun K2 k1=>?_;rintro J ⟨z,w,rfl⟩;exact ai rfl w fun a8=>(ab _ a8.1 a8.2);refine a9 (fun G=>?_) fun G=>?_;exact k1 ⟨Q,(if_neg (show¬g=dU from G)).symm,rfl⟩;refine dA D hl ?_;exact k1 ⟨K,(if_pos (show g=dU from G)).symm,rfl⟩
 .rintro J ⟨pre,l,W,ep2,X,x,y,e1,T,R,A,m,rfl⟩;cases l with|cons k l=>trivial|nil=>rw[append_nil]at T;subst T;refine(hsz _ R).elim fun s1 s2=>?_;refine g0 c (am j) A s2 (show bH _<=_ by exact af s1) fun G I=>?_;exact fin _ G R<|(x2.hB a2 m).trans I
set_option genInjectivity false in
structure kn where
 kind:Bool
 val:aa
 w:Int
 h7:Nat
abbrev ko:=List<|aa×(Nat×Nat×kn)
noncomputable def pw:aa:=[115,99,97,108,97,114]
noncomputable def hC:aa:=gG
noncomputable def sH:aa:=kH
noncomputable def c3:aa:=hH
def kp(s:kn):List (aa×V):=[(kG,.S (if s.kind then pw else hC)),(fH,.S s.val),([116,114,97,99,101,115],.Y s.h7),([105,115,95,98,117,115,121],.aP false),(pZ,.aP false),(nQ,.ae s.w)]
set_option genInjectivity false in
structure fh where
 (H e1 T I fD dn eN px ni py:Nat)
noncomputable def hD(A:fh)(aY sp ep:Int):List (aa×V):=[(kB,.Y A.T),(nR,.Y A.I),(nS,.ae 40),(lX,.a5),(kC,.ae aY),(lW,.ae sp),(nT,.ae ep),([102,114,97,109,101],.a5),(p0,.a5),(jE,.Y A.fD),(jy,.Y A.dn),(lT,.Y A.eN)]
noncomputable def eO:List (aa×V):=[([99,114,101,97,116,101],.Y 456),(jz,.Y 498),(hJ,.Y 484),(ky,.Y 491),(nM,.Y 491),(iR,.Y 512),(lV,.Y 477),(e5,.Y 470),(fZ,.Y 463),([115,105,122,101],.Y 505),(kz,.Y 519),
 (ic,.Y 540),(gh,.Y 554),(ia,.Y 547),(jF,.Y 561),(kA,.Y 568),
 (gg,.Y 617),(kI,.Y 589),(jG,.Y 596),(ib,.Y 638),(g3,.Y 645)]
noncomputable def fi(p:aa×(Nat×Nat×kn)):Nat:=p.2.2.1
def cU(A:fh)(Z:ko):aa:=A.e1::A.fD::Z.map fi
noncomputable def iJ(Z:ko):List (aa×V):=Z.map fun p=>(p.1,V.Y p.2.1)
noncomputable def stats(A:fh):aa:=[A.H,A.T,A.dn,A.px,A.ni,A.py]
structure cI(A:fh)(aY:Int)(X:ko)(h:ar):Prop where
 host:h A.H=some (.dt 945 A.e1)
 dict:bs fun sp ep=>h A.e1=some (.bK<|hD A aY sp ep)
 e2:∃e,h A.T=some (.av [(sH,.Y 989)] e)
 vars:∃e,h A.fD=some (.av (iJ X) e)
 eP:∃e,h A.dn=some (.av [(c3,.Y A.px)] e)
 tup:h A.px=some (.an [.Y 167,.Y A.ni])
 data:h A.ni=some (.an [.S c3,.Y A.py])
 subs:∃e,h A.py=some (.av eO e)
 each:∀p∈X,h p.2.1=some (.dt 697 p.2.2.1)/\h p.2.2.1=some (.bK<|kp p.2.2.2)
 aC:(cU A X).Nodup
 names:(X.map (·.1)).Nodup
 st:∀x∈stats A,x∉cU A X
def gC(Z:ko)(n:aa):Option aa:=match aH n Z with|some p=>if p.2.2.kind then some p.2.2.val else none|none=>none
abbrev cr:=aa->Option aa
noncomputable def setM(M:cr)(n:aa)(v:Option aa):cr:=fun k=>if k=n then v else M k
structure au(D:aa)(h:ar)(W:aa)(X:ar):Prop where
 keep:∀a o,a∉D->h a=some o->X a=some o
 grow:∀a,a∈W->a∈D\/h a=none
 all:∀a,X a=none->h a=none
theorem au.trans{D h X W Z Y}(x:au D h X W)(y:au X W Z Y):au D h Z Y where
 keep:=fun a o n e=>y.keep a o (fun q=>(x.grow a q).elim n fun z=>by rw[e]at z;trivial) (x.keep a o n e)
 grow:=fun a q=>(y.grow a q).elim (fun z=>x.grow a z) fun z=>.inr (x.all a z)
 all:=fun a q=>x.all a<|y.all a q
theorem au.ext{D h Z}(x:Ext h Z):au D h D Z:=⟨fun a o O e=>x a o e,fun O q=>.inl q,fun O q=>x.fresh q⟩
def Loc(D:aa)(h:ar)(a:Nat)(o:dM):Prop:=a∉D/\h a=some o
theorem au.loc{D h Z Y a o}(x:au D h Z Y)(l:Loc D h a o):Loc Z Y a o:=⟨fun q=>(x.grow a q).elim l.1 (fun z=>by rw[l.2]at z;trivial),x.keep a o l.1 l.2⟩
theorem Ih{aq ck}(f:aq->ck)(k):∀l:List (aa×aq),aH k (l.map fun p=>(p.1,f p.2))=(aH k l).map f:=by
 intro l;induction l with
 |nil=>exact rfl
 |cons pp r ab=>obtain⟨a,b⟩:=pp;simp only[map_cons,l8,jT];split;rfl;exact ab
theorem Ii{aq ck}(f:aq->ck)(k)(v):∀l:List (aa×aq),put k (f v) (l.map fun p=>(p.1,f p.2))=(put k v l).map fun p=>(p.1,f p.2):=by
 intro l;induction l with
 |nil=>exact rfl
 |cons pp r ab=>obtain⟨a,b⟩:=pp;simp only[map_cons,l9,fL];split;rfl;exact a4 ab
theorem iK{aq k}{v:aq}{l}(h:aH k l=some v):(k,v)∈l:=by
 induction l with
 |nil=>cases h
 |cons p r ab=>obtain⟨a,b⟩:=p;by_cases q:a=k;exact aW (a2<|(if_pos q).symm.trans h)<|Z q<|.head _;exact .tail _<|ab<|(if_neg q).symm.trans h
theorem sI{aq Y:Type}(f:aa×aq->Y){k u v}(X:f (k,v)=f (k,u)){l}(h:aH k l=some u):(put k v l).map f=l.map f:=by
 induction l with
 |nil=>cases h
 |cons p r ab=>obtain⟨a,b⟩:=p;by_cases q:a=k;subst q;exact Z (show put a v ((a,b)::r)=(a,v)::r from if_pos rfl) (Z (a2<|(if_pos rfl).symm.trans h) (bn (·::r.map f) X));exact Z (show put k v ((a,b)::r)=(a,b)::put k v r from if_neg q) (bn (f (a,b)::·)<|ab<|(if_neg q).symm.trans h)
theorem Ij{aq k}{v:aq}{p l}(aC:(l.map (·.1)).Nodup)(h:p∈put k v l):p=(k,v)\/(p∈l/\p.1≠k):=by
 induction l with
 |nil=>exact .inl<|mem_singleton.mp h
 |cons x r ab=>obtain⟨a,b⟩:=x;have Z:=nodup_cons.mp aC;by_cases q:a=k;subst q;exact(bU ((show put a v ((a,b)::r)=(a,v)::r from if_pos rfl)▸h)).imp id fun g=>⟨.tail _ g,fun e=>Z.1<|mem_map.mpr ⟨p,g,e⟩⟩;rw[show put k v ((a,b)::r)=(a,b)::put k v r from if_neg q]at h;exact(bU h).elim (fun g=>.inr ⟨g▸.head _,g▸q⟩) fun g=>(ab Z.2 g).imp id fun z=>⟨.tail _ z.1,z.2⟩
theorem xT{aq k}{u v:aq}{l}(h:aH k l=some u):(put k v l).length=l.length:=by have:=bn List.length<|sI (fun p=>p.1) (u:=u) (v:=v) rfl h;simpa using this
theorem sJ{aq k}{l:List (aa×aq)}(h:aH k l=none):k∉l.map (·.1):=by
 induction l with
 |nil=>exact fun h=>nomatch h
 |cons p r ab=>obtain⟨a,b⟩:=p;by_cases q:a=k;exact nomatch (if_pos q).symm.trans h;exact fun Z=>(bU Z).elim (fun g=>q g.symm)<|ab<|(if_neg q).symm.trans h
theorem lF(n)(Z):aH n (iJ Z)=(aH n Z).map fun p=>.Y p.1:=Ih (fun p:Nat×Nat×kn=>V.Y p.1) n Z
theorem Ik(n)(a d)(s)(Z):put n (.Y a) (iJ Z)=iJ (put n (a,d,s) Z):=Ii (fun p:Nat×Nat×kn=>V.Y p.1) n (a,d,s) Z
theorem sK(n)(a d)(s)(Y:ko):gC (put n (a,d,s) Y)=setM (gC Y) n (if s.kind then some s.val else none):=by funext k;unfold gC setM;rw[lD];by_cases h:n=k;exact Z (if_pos h)<|Z (if_pos h.symm) rfl;exact Z (if_neg h)<|Z (if_neg<|Ne.symm h) rfl
theorem set_set{h:ar}{a o o'}:(h.set a o).set a o'=h.set a o':=by funext b;unfold ar.set;split<;>rfl
theorem cI.ext{A aY Z h Y}(x:cI A aY Z h)(e:Ext h Y):cI A aY Z Y where
 host:=e _ _ x.host
 dict:=x.dict.elim fun a b q=>⟨a,b,e _ _ q⟩
 e2:=x.e2.imp fun a q=>e _ _ q
 vars:=x.vars.imp fun a q=>e _ _ q
 eP:=x.eP.imp fun a q=>e _ _ q
 tup:=e _ _ x.tup
 data:=e _ _ x.data
 subs:=x.subs.imp fun a q=>e _ _ q
 each:=fun p X=>⟨e _ _ (x.each p X).1,e _ _ (x.each p X).2⟩
 aC:=x.aC
 names:=x.names
 st:=x.st
theorem cI.alloc{A aY Y h}(x:cI A aY Y h){a}(X:a∈cU A Y):∃o,h a=some o/\((∃es,o=.bK es)\/bs fun es e=>o=.av es e):=by
 rcases bU X with q|q
 .refine x.dict.elim fun s e g=>?_;subst q;exact⟨_,g,.inl ⟨_,rfl⟩⟩
 .rcases bU q with q|q
  .refine x.vars.elim fun e g=>?_;subst q;exact⟨_,g,.inr ⟨_,_,rfl⟩⟩
  .refine(mem_map.mp q).elim fun p Z=>?_;obtain rfl:=Z.2;exact⟨_,(x.each p Z.1).2,.inl ⟨_,rfl⟩⟩
theorem cI.fresh{A aY Y h}(x:cI A aY Y h){a}(X:h a=none):a∉cU A Y:=fun q=>by refine(x.alloc q).elim fun o Z=>?_;have g:=Z.1;rw[X]at g;trivial
theorem cI.sL{A aY Z h}(x:cI A aY Z h){a o}(X:h a=some o)(Y:(∀es,o≠.bK es)/\∀es e,o≠.av es e):a∉cU A Z:=fun q=>by
 obtain⟨o',g,z⟩:=x.alloc q;rw[X]at g;obtain rfl:=a2 g;rcases z with⟨es,z⟩|⟨es,e,z⟩
 .exact Y.1 _ z
 .exact Y.2 _ _ z
theorem cI.ne{A aY Y h}(x:cI A aY Y h):A.e1≠A.fD/\(∀p∈Y,fi p≠A.e1/\fi p≠A.fD)/\∀p∈Y,∀q∈Y,p.1≠q.1->fi p≠fi q:=by
 have T:=nodup_cons.mp x.aC;have S:=nodup_cons.mp T.2;refine⟨fun e=>T.1<|Z e<|.head _,fun p X=>⟨fun e=>T.1<|aW e<|.tail _<|List.mem_map_of_mem X,fun e=>S.1<|aW e<|List.mem_map_of_mem X⟩,?_⟩;have R:∀l:ko,(l.map fi).Nodup->∀p∈l,∀q∈l,p.1≠q.1->fi p≠fi q:=by
  intro l;induction l with
  |nil=>intro _ p X;trivial
  |cons y r ab=>
   intro aC p X q Q U e;have W:=nodup_cons.mp aC;rcases bU X with g|g<;>rcases bU Q with V|V
   .exact U<|Z g<|Z V rfl
   .subst g;exact W.1<|Z e<|List.mem_map_of_mem V
   .subst V;exact W.1<|aW e<|List.mem_map_of_mem g
   .exact ab W.2 p g q V U e
 exact R Y S.2
theorem cI.lG{A aY V h}(x:cI A aY V h){dep' sp ep}:cI A dep' V (h.set A.e1<|.bK<|hD A dep' sp ep):=by
 have Y:∀y∈stats A,y≠A.e1:=fun y U e=>x.st y U<|Z e<|.head _;have g:∀{b o},b≠A.e1->h b=some o->(h.set A.e1 (.bK (hD A dep' sp ep))) b=some o:=fun T e=>(bl T).trans e;have W:=x.ne;exact
 {host:=g (Y _<|.head _) x.host
  dict:=⟨_,_,aD⟩
  e2:=x.e2.imp fun a q=>g (Y _<|.tail _<|.head _) q
  vars:=x.vars.imp fun a q=>g (Ne.symm W.1) q
  eP:=x.eP.imp fun a q=>g (Y _<|.tail _<|.tail _<|.head _) q
  tup:=g (Y _<|.tail _<|.tail _<|.tail _<|.head _) x.tup
  data:=g (Y _<|.tail _<|.tail _<|.tail _<|.tail _<|.head _) x.data
  subs:=x.subs.imp fun a q=>g (Y _<|.tail _<|.tail _<|.tail _<|.tail _<|.tail _<|.head _) q
  each:=fun p X=>⟨g (fun e=>by refine x.dict.elim fun s S z=>?_;rw[<-e,(x.each p X).1]at z;cases z) (x.each p X).1,g (W.2.1 p X).1 (x.each p X).2⟩
  aC:=x.aC
  names:=x.names
  st:=x.st}
theorem pz{A}{Y:ko}{n a d s X}(W:aH n Y=some (a,d,s)):cU A (put n (a,d,X) Y)=cU A Y:=by unfold cU;exact Z (sI fi (u:=(a,d,s)) (v:=(a,d,X)) rfl W) rfl
theorem cI.xU{A aY Y h}(x:cI A aY Y h){n a d s V}(T:aH n Y=some (a,d,s)):cI A aY (put n (a,d,V) Y) (h.set d<|.bK<|kp V):=by
 have X:=iK T;have U:d∈cU A Y:=.tail _<|.tail _<|List.mem_map_of_mem (f:=fi) X;have W:∀y∈stats A,y≠d:=fun y O e=>x.st y O<|Z e U;have g:∀{b o},b≠d->h b=some o->(h.set d (.bK (kp V))) b=some o:=fun N e=>(bl N).trans e;have R:=x.ne;have P:=R.2.1 _ X;have inst:∀p∈Y,p.2.1≠d:=fun p Q e=>by have z:=(x.each _ X).2;have:=(x.each p Q).1;rw[e]at this;rw[this]at z;cases z
 exact
 {host:=g (W _<|.head _) x.host
  dict:=x.dict.elim fun a b q=>⟨a,b,g (Ne.symm P.1) q⟩
  e2:=x.e2.imp fun a q=>g (W _<|.tail _<|.head _) q
  vars:=x.vars.imp fun e q=>Z (show iJ (put n (a,d,V) Y)=iJ Y from sI _ (u:=(a,d,s)) (v:=(a,d,V)) rfl T) (g (Ne.symm P.2) q)
  eP:=x.eP.imp fun a q=>g (W _<|.tail _<|.tail _<|.head _) q
  tup:=g (W _<|.tail _<|.tail _<|.tail _<|.head _) x.tup
  data:=g (W _<|.tail _<|.tail _<|.tail _<|.tail _<|.head _) x.data
  subs:=x.subs.imp fun a q=>g (W _<|.tail _<|.tail _<|.tail _<|.tail _<|.tail _<|.head _) q
  each:=fun p Q=>by
   rcases Ij x.names Q with z|⟨S,M⟩
   .subst z;exact⟨g (inst (n,a,d,s) X) (x.each _ X).1,aD⟩
   .exact⟨g (inst p S) (x.each p S).1,g (R.2.2 p S _ X M) (x.each p S).2⟩
  aC:=Z (pz T) x.aC
  names:=ek x.names
  st:=Z (pz T) x.st}
theorem au.set{D h a o}(Y:a∈D):au D h D (h.set a o)where
 keep:=fun b o' X e=>(bl fun q=>X<|by exact Z q Y).trans e
 grow:=fun b q=>.inl q
 all:=fun b q=>by by_cases e:b=a;subst e;rw[ar.at]at q;trivial;exact(bl e).symm.trans q
def aN(A:fh)(aY:Int)(M:cr)(m:Nat)(D:aa)(h:ar):Prop:=∃Z,cQ (cI A aY Z h) (Z.length<=m) (gC Z=M)<|cU A Z=D
theorem aN.ext{A aY M m D h Z}(x:aN A aY M m D h)(e:Ext h Z):aN A aY M m D Z:=let⟨sM,a,b,c,d⟩:=x;⟨sM,a.ext e,b,c,d⟩
theorem aN.fresh{A aY M m D h}(x:aN A aY M m D h){a}(Z:h a=none):a∉D:=by obtain⟨Y,q,_,_,rfl⟩:=x;exact q.fresh Z
theorem aN.more{A aY M m a8 D h}(x:aN A aY M m D h)(Z:m<=a8):aN A aY M a8 D h:=let⟨sM,a,b,c,d⟩:=x;⟨sM,a,bp b Z,c,d⟩
theorem aN.new{A aY M m D h}(x:aN A aY M m D h){a o}(Z:h a=none):Loc D (h.set a o) a o:=⟨x.fresh Z,aD⟩
theorem aN.out{A aY M m D h}(x:aN A aY M m D h){a o}(Z:h a=some o)(Y:(∀es,o≠.bK es)/\∀es e,o≠.av es e):Loc D h a o:=by obtain⟨X,q,_,_,rfl⟩:=x;exact⟨q.sL Z Y,Z⟩
structure hE(D:aa)(W h:ar)(e:Nat)(X:cb):Prop where
 msg:X.msg.length<=1000000
 new:W e=none
 p:er fun d c q x=>cQ (W d=none) (Loc D h e<|.bD 84 d c) (Loc D h d<|.bK<|lv X.msg q [] false 0 x)<|Loc D h q<|.an<|X.d5.map .S
def jr(D:aa)(h:ar)(e:Nat)(Y:cb):Prop:=ij fun d c q x Z gR ln=>ct (Loc D h e<|.bD 84 d c) (Loc D h d<|.bK<|lv Y.msg q Z gR ln x)<|Loc D h q<|.an<|Y.d5.map .S
theorem hE.g{D Y h e Z}(x:hE D Y h e Z):jr D h e Z:=let⟨_,_,d,c,q,y,_,a,b,f⟩:=x;⟨d,c,q,y,_,_,_,a,b,f⟩
theorem hE.pre{D Z h e Y W V X}(x:hE D X h e Y)(s:au W Z V X):hE D Z h e Y:=let⟨m,w,d,c,q,y,z,a,b,f⟩:=x;⟨m,s.all _ w,d,c,q,y,s.all _ z,a,b,f⟩
theorem cq.toN{A aY M m D h Y e a7 Z}(x:aN A aY M m D h)(y:cq h Y e a7 Z)(V:Z.msg.length<=1000000):hE D h Y e Z:=by obtain⟨U,X,d,W,⟨T,q,z,S,R⟩⟩:=y;exact⟨V,X,d,a7,q,z,W,⟨x.fresh X,T⟩,⟨x.fresh W,S⟩,(x.ext U).out R ⟨fun O=>by simp,fun O O=>by simp⟩⟩
def dV(h:ar)(a d C:Nat)(es:List (aa×V)):ar:=(h.set d<|.bK es).set a<|.dt C d
theorem nk{h a d C es}:dV h a d C es a=some (.dt C d):=aD
theorem nn{h a d C es}(Z:d≠a):dV h a d C es d=some (.bK es):=by unfold dV;rw[bl Z,ar.at]
theorem Il{h a d C es X}(W:d≠a):(dV h a d C es).set d (.bK X)=dV h a d C X:=by funext b;unfold dV ar.set;by_cases q:b=d;subst q;exact(if_pos rfl).trans<|(if_pos rfl).symm.trans (if_neg W).symm;rw[if_neg q];by_cases Y:b=a;exact(if_pos Y).trans (if_pos Y).symm;exact Z (if_neg Y)<|Z (if_neg Y)<|Z (if_neg q)<|Z (if_neg q) rfl
theorem xV{h Z a d C es}(x:Ext h Z)(Y:h a=none)(U:h d=none):Ext h (dV Z a d C es):=fun b o e=>by exact(bl<|bv Y e).trans<|(bl<|bv U e).trans<|x b o e
theorem e3{B Q h a d C es n v}(X:d≠a)(W:B.ec C n=true)(V:es.length<=100)(k:Q (dV h a d C<|put n v es)):jZ B (.Y a) n v Q (dV h a d C es):=by exact jl nk (nn X) W V<|Z (Il X) k
theorem Im(c:aQ C ax)(N:n<=88)(k:∀a d h7 W,h a=none->h d=none->a≠d->Ext h W->W a=some (.dt 697 d)->W d=some (.bK<|kp ⟨false,[],0,h7⟩)->P (.Y a) W):C n U (.Y 697) [] P E h:=by
 refine c.mkVar (af N) fun d a U R X=>?_;have M:∀{es:List (aa×V)},Ext h (dV h a d 697 es):=fun{es} b o e=>by exact(bl<|bv R e).trans<|(bl<|bv U e).trans e
 refine e3 X rfl (a1)<|e3 X rfl (a1) ?_;intro t Q;have T:=bv Q nk;have S:=bv Q<|nn X;have L:∀{es:List (aa×V)},((dV h a d 697 es).set t (.ag []))=dV (h.set t (.ag [])) a d 697 es:=fun{es}=>by
  funext b;unfold dV ar.set;by_cases q:b=t;subst q;exact Z (if_pos rfl)<|Z (if_neg<|Ne.symm T)<|Z (if_neg<|Ne.symm S)<|Z (if_pos rfl) rfl
  .rw[if_neg q];split;rfl
   .split;rfl;rfl
 rw[L];refine e3 X rfl (a1)<|e3 X rfl (a1)<|e3 X rfl (a1)<|e3 X rfl (a1) ?_;have O:h t=none:=by exact(bl<|Ne.symm S).symm.trans<|(bl<|Ne.symm T).symm.trans Q
 exact⟨rfl,k a d t _ R U (Ne.symm X) (xV (aw O) R U) nk<|nn X⟩
theorem xW(c:aQ C ax)(R:n<=88){a d s W v}{b:Bool}(Q:W=if b then pw else hC)(X:h a=some (.dt 697 d))(hd0:h d=some (.bK<|kp s))(k:P (.S v) (h.set d<|.bK<|kp ⟨b,v,s.w+1,s.h7⟩)):C n U (.Y 807) [.Y a,.S W,.S v] P E h:=by
 have V:a≠d:=fun e=>by subst e;rw[X]at hd0;cases hd0
 subst Q;refine c.fn rfl (af R) ?_;refine jl X hd0 rfl (aL) ?_;have g:∀{o},(h.set d o) a=some (.dt 697 d):=(bl V).trans X;refine jl g (aD) rfl (a1) ?_;have T:∀{o o'},((h.set d o).set d o') a=some (.dt 697 d):=fun{o o'}=>Z set_set g;refine dB T (aD) (v:=.ae s.w) rfl rfl hq ?_;refine jl T (aD) rfl (a1) ?_;have O:∀{o o' o''},((h.set d o).set d o').set d o''=h.set d o'':=fun{o o' o''}=>set_set.trans set_set;exact Z O k
noncomputable def xX(Z nm:aa):cb:=⟨[99,97,110,39,116,32]++Z++[32,34]++nm++ty,[cD,ie,[86,65,82,78,65,77,69],nm]⟩
theorem cI.Io{A aY Y h}(x:cI A aY Y h){nm a d s}(I:aH nm Y=none){X}(e:Ext h X)(H:h a=none)(U:h d=none)(R:X a=some (.dt 697 d))(Q:X d=some (.bK<|kp s)){ep}:
  cI A aY (put nm (a,d,s) Y) (X.set A.fD<|.av (iJ<|put nm (a,d,s) Y) ep):=by
 have y:=x.ext e;have W:∀z∈stats A,z≠A.fD:=fun z V q=>x.st z V (by exact Z q<|.tail _<|.head _);have g:∀{b o},b≠A.fD->X b=some o->(X.set A.fD (.av (iJ (put nm (a,d,s) Y)) ep)) b=some o:=fun G e=>(bl G).trans e;have P:=x.ne;have O:put nm (a,d,s) Y=Y++[(nm,(a,d,s))]:=lE<|sJ I;have N:cU A (put nm (a,d,s) Y)=cU A Y++[d]:=by unfold cU;rw[O];simp[fi]
 have M:d∉cU A Y:=x.fresh U;refine x.vars.elim fun F S=>?_;have L:a≠A.fD:=fun q=>by rw[q,S]at H;trivial
 have K:d≠A.fD:=fun q=>by rw[q,S]at U;trivial
 exact
 {host:=g (W _<|by exact .head _) y.host
  dict:=y.dict.elim fun a b q=>⟨a,b,g P.1 q⟩
  e2:=y.e2.imp fun a q=>g (W _<|by exact .tail _<|.head _) q
  vars:=⟨ep,aD⟩
  eP:=y.eP.imp fun a q=>g (W _<|by exact .tail _<|.tail _<|.head _) q
  tup:=g (W _<|by exact .tail _<|.tail _<|.tail _<|.head _) y.tup
  data:=g (W _<|by exact .tail _<|.tail _<|.tail _<|.tail _<|.head _) y.data
  subs:=y.subs.imp fun a q=>g (W _<|by exact .tail _<|.tail _<|.tail _<|.tail _<|.tail _<|.head _) q
  each:=fun p J=>by
   rw[O]at J;rcases mem_append.mp J with z|z
   .refine⟨g (fun q=>?_) (y.each p z).1,g (P.2.1 p z).2 (y.each p z).2⟩;have:=(x.each p z).1;rw[q,S]at this;cases this
   .rw[mem_singleton]at z;subst z;exact⟨g L R,g K Q⟩
  aC:=by exact Z N (nodup_append.mpr ⟨x.aC,by exact aU,fun z V w T q=>by rw[mem_singleton]at T;subst T;subst q;exact M V⟩)
  names:=ek x.names
  st:=fun z V=>by
   rw[N];intro q;rcases mem_append.mp q with q|q
   .exact x.st z V q
   .rw[mem_singleton]at q;subst q;have:∀w∈stats A,h w≠none:=by
     intro w T;simp only[stats,mem_cons,not_mem_nil,or_false]at T;refine x.e2.elim fun E t1=>?_;refine x.eP.elim fun D bA=>?_;refine x.subs.elim fun C t3=>?_;rcases T with rfl|rfl|rfl|rfl|rfl|rfl
     .exact Z x.host kR
     .exact Z t1 kR
     .exact Z bA kR
     .exact Z x.tup kR
     .exact Z x.data kR
     .exact Z t3 kR
    exact this _ V U}
variable{A:fh}{aY:Int}
theorem xY(c:aQ C ax)(Q:n<=86){X}(x:cI A aY X h)(W:X.length<=1000000){nm}(k:∀V a d s O,cI A aY V O->aH nm V=some (a,d,s)->gC V=gC X->V.length<=X.length+1->au (cU A X) h (cU A V) O->P (.Y a) O):C n none (.Y 857) [.Y A.H,.S nm] P E h:=by
 refine x.dict.elim fun sp ep M=>?_;refine x.vars.elim fun F N=>?_;refine c.fn rfl (af Q) ?_;refine dB x.host M (v:=.Y A.fD) rfl rfl (by exact eU) ?_;refine c.fn rfl (am Q) ?_;refine gX N ?_;rw[lF];cases U:aH nm X with
 |some p=>obtain⟨a,d,s⟩:=p;refine dA N (v:=.Y a) (by rw[lF,U];rfl) ?_;exact k X a d s h x U rfl (le_succ _)<|au.ext Ext.rfl
 |none=>
  refine Im c (cW Q) fun a d h7 D J hd0 G T L K=>?_;refine eB (T _ _ N) (by simp[iJ];exact af W) fun e=>?_;rw[Ik nm a d ⟨false,[],0,h7⟩];have R:aH nm (put nm (a,(d,(⟨false,[],0,h7⟩:kn))) X)=some (a,d,⟨false,[],0,h7⟩):=by rw[lD,if_pos rfl]
  refine dA (aD) (v:=.Y a) (by rw[lF,R];rfl) ?_;refine k _ a d ⟨false,[],0,h7⟩ _ (x.Io U T J hd0 L K) R ?_ (ly _ _ _) ?_
  .rw[sK];funext z;unfold setM;split;rename_i q;subst q;unfold gC;exact Z U rfl;rfl
  .have I:cU A (put nm (a,(d,(⟨false,[],0,h7⟩:kn))) X)=cU A X++[d]:=by unfold cU;rw[lE<|sJ U];simp[fi]
   refine⟨fun b o W e=>(bl fun q=>W<|by exact Z q<|.tail _<|.head _).trans<|T _ _ e,fun b W=>?_,fun b W=>?_⟩
   .rw[I]at W;rcases mem_append.mp W with q|q
    .exact .inl q
    .rw[mem_singleton]at q;subst q;exact .inr hd0
   .skip;by_cases q:b=A.fD;subst q;rw[ar.at]at W;trivial;exact T.fresh<|(bl q).symm.trans W
theorem cI.own{X}(x:cI A aY X h){K m f}(W:mY.lookup m=some f)(V:∀sp ep,aH m (hD A aY sp ep)=none)(k:K (.fn (.Y f) [.Y A.H])):kW (eh C ax n) h (.Y A.H) (.bE m) K:=by
 refine x.dict.elim fun sp ep Z=>?_;refine pc x.host Z (V sp ep) ?_ ?_ k;show mZ 945 m=some f;exact(if_pos rfl).trans W
 .show lk _ m=none;unfold lk;split;rename_i q;subst q;trivial;rfl
theorem fE(c:aQ C ax)(T:n<=84){M m D}(x:aN A aY M m D h)(w:m<=1000000){nm}(R:nm.length<=800000)(u:∀v W U,M nm=some v->aN A aY M (m+1) U W->au D h U W->P (.S v) W)(t:∀e W U,M nm=none->aN A aY M (m+1) U W->au D h U W->hE U h W e (xX fl nm)->E e W):C n none (.Y 878) [.Y A.H,.S nm] P E h:=by
 obtain⟨G,V⟩:=x;obtain rfl:=V.3;obtain rfl:=V.4;refine c.fn rfl (af T) ?_;refine V.1.own rfl (fun O O=>rfl) ?_;refine V.1.own rfl (fun O O=>rfl) ?_;refine xY c (am T) V.1 (by exact((az 0x22043d0900a101021e848050888102) w V.2)) fun Q a d s r K F B J st=>?_;have L:=K.each _<|iK F;have N:aN A aY (gC G) (m+1) (cU A Q) r:=⟨Q,K,by exact((aT 0x2048044204040081081221108102) V.2 J),B,rfl⟩;refine c.fn rfl (am T) ?_;refine dB L.1 L.2 (v:=.S (if s.kind then pw else hC)) rfl rfl (by exact ja) ?_;have X:gC G nm=if s.kind then some s.val else none:=by rw[<-B];unfold gC;exact Z F rfl
 cases z:s.kind with
 |true=>rw[z]at X;refine dB L.1 L.2 (v:=.S s.val) rfl rfl (by exact ja) ?_;exact u _ _ _ X N st
 |false=>rw[z]at X;refine c.fn rfl (cW T) ?_;refine⟨by exact aL,?_⟩;refine⟨by exact aL,?_⟩;refine⟨((aF 0xc350028404084000000c901810a8101) R),?_⟩;refine⟨by simp;exact af R,?_⟩;intro q o;refine jn c (by exact((aF 0x2a07202042c07302604c0900928101) T)) (d5:=[cD,ie,[86,65,82,78,65,77,69],nm]) (aD) fun e l y=>?_;obtain⟨j,k⟩:=y.p;have I:=y.pre<|aw o;refine jm k.2.at_ ?_;exact t e l (cU A Q) X (N.ext I.ext) (st.trans<|au.ext I.ext)<|(I.toN N<|by simp[xX];exact af R).pre st
theorem gD(c:aQ C ax)(W:n<=84){M m D}(x:aN A aY M m D h)(K:m<=1000000){nm v}(k:∀R N,aN A aY (setM M nm<|some v) (m+1) N R->au D h N R->P (.S v) R):C n none (.Y 885) [.Y A.H,.S nm,.S v] P E h:=by obtain⟨I,Z⟩:=x;obtain rfl:=Z.3;obtain rfl:=Z.4;refine c.fn rfl (af W) ?_;refine Z.1.own rfl (fun O O=>rfl) ?_;refine Z.1.own rfl (fun O O=>rfl) ?_;refine xY c (am W) Z.1 (by exact((az 0x22043d0900a101021e848050888102) K Z.2)) fun V a d s G T X J Q st=>?_;have L:=T.each _<|iK X;refine c.fn rfl (am W) ?_;refine xW c (cW W) (b:=true) rfl L.1 L.2 ?_;have U:d∈cU A V:=.tail _<|.tail _<|List.mem_map_of_mem (f:=fi)<|iK X;refine k _ (cU A V) ⟨_,T.xU X,by rw[xT X];exact((aT 0x2048044204040081081221108102) Z.2 Q),?_,pz X⟩<|st.trans<|au.set U;rw[sK,J];rfl
theorem sN(c:aQ C ax)(R:n<=84){M m D}(x:aN A aY M m D h){nm}(k:P (.aP (M nm).isSome) h):C n U (.Y 850) [.Y A.H,.S nm] P E h:=by
 obtain⟨Q,Z,L,rfl,rfl⟩:=x;obtain⟨sp,ep,W⟩:=Z.dict;obtain⟨K,V⟩:=Z.vars;refine c.fn rfl (af R) ?_;refine dB Z.host W (v:=.Y A.fD) rfl rfl (by exact eU) ?_;refine gX V ?_;rw[lF];unfold gC at k;rcases X:aH nm Q with _|p
 .rw[X]at k;exact k
 .
  obtain⟨a,d,s⟩:=p;rw[X]at k;obtain⟨O,N⟩:=Z.each _<|iK X;refine dB Z.host W (v:=.Y A.fD) rfl rfl (by exact eU) ?_;refine dA V (v:=.Y a) (by rw[lF,X];rfl) ?_;refine dB O N (v:=.S (if s.kind then pw else hC)) rfl rfl (by exact ja) ?_;cases T:s.kind with
  |true=>simp only[T,if_pos]at k;exact k
  |false=>simp only[T]at k;exact k
theorem xZ(c:aQ C ax)(T:n<=83){M m D}(x:aN A aY M m D h){nm v}(X:M nm=some v)(k:∀R Q,aN A aY (setM M nm none) m Q R->au D h Q R->P .a5 R):C n none (.Y 892) [.Y A.H,.S nm] P E h:=by
 refine c.fn rfl (af T) ?_;have L:=x;obtain⟨W,Z⟩:=x;obtain rfl:=Z.3;obtain rfl:=Z.4;refine Z.1.own rfl (fun O O=>rfl)<|sN c (am T) L ?_;rw[X];obtain⟨sp,ep,N⟩:=Z.1.dict;obtain⟨J,K⟩:=Z.1.vars;refine dB Z.1.host N (v:=.Y A.fD) rfl rfl (by exact eU) ?_;obtain⟨a,d,s,lH⟩:cP fun a d s=>aH nm W=some (a,d,s):=by
  unfold gC at X;rcases q:aH nm W with _|p
  .rw[q]at X;trivial
  .obtain⟨a,d,s⟩:=p;exact⟨a,d,s,rfl⟩
 have V:=Z.1.each _<|iK lH;refine dA K (v:=.Y a) (by rw[lF,lH];rfl) ?_;refine xW c (am T) (b:=false) rfl V.1 V.2 ?_;have U:d∈cU A W:=.tail _<|.tail _<|List.mem_map_of_mem (f:=fi)<|iK lH;refine k _ (cU A W) ⟨_,Z.1.xU lH,by rw[xT lH];exact Z.2,?_,pz lH⟩<|au.set U;rw[sK];rfl
noncomputable def Ip:Option aa->V|some v=>.S v|none=>.a5
theorem sO(c:aQ C ax)(U:n<=83){M m D}(x:aN A aY M m D h)(N:m<=1000000){nm}(T:nm.length<=800000)(k:∀X R,aN A aY M (m+1) R X->au D h R X->P (Ip<|M nm) X):C n none (.Y 526) [.Y A.H,.S nm] P E h:=by refine c.fn rfl (af U) ?_;have L:=x;obtain⟨F,Z⟩:=x;obtain rfl:=Z.3;obtain rfl:=Z.4;refine Z.1.own rfl (fun O O=>rfl)<|fE c (am U) L N T (fun v K J W V st=>?_) (fun e K J W V st I=>?_);exact(W▸k) _ _ V st;rw[W]at k;obtain⟨_,_,d,G,q,y,Q⟩:=I;refine⟨⟨d,G,Q.2.2⟩,?_⟩;exact k _ _ V st
theorem kq(c:aQ C ax)(W:n<=82){M m D}(x:aN A aY M m D h)(T:m<=1000000){nm v}(V:nm.length<=800000)(R:M nm=some v)(k:∀X U,aN A aY M (m+1) U X->au D h U X->P (.S v) X):C n none (.Y 533) [.Y A.H,.S nm] P E h:=by refine c.fn rfl (af W) ?_;refine sO c (am W) x T V fun O N Q st=>?_;exact Z R<|k _ _ Q st
theorem cI.np{A aY X h}(x:cI A aY X h){e o o'}(T:h e=some o)(S:∀C d,o≠.dt C d)(V:∀es,o≠.an es)(R:e∉cU A X)(Q:∀es ep,o≠.av es ep):cI A aY X (h.set e o'):=by
 have g:∀{b p},b≠e->h b=some p->(h.set e o') b=some p:=fun Z q=>(bl Z).trans q;have ne:∀{b p},h b=some p->p≠o->b≠e:=fun Z Y q=>by subst q;exact Y (a2<|T.symm.trans Z).symm
 have inst:∀{b C d},h b=some (.dt C d)->b≠e:=fun Z=>ne Z (S _ _).symm;have tup:∀{b xs},h b=some (.an xs)->b≠e:=fun Z=>ne Z (V _).symm;have W:∀{b es ep},h b=some (.av es ep)->b≠e:=fun Z=>ne Z (Q _ _).symm;have U:∀{b},b∈cU A X->b≠e:=fun Z q=>R (q▸Z);exact
 {host:=g (inst x.host) x.host
  dict:=x.dict.elim fun a b q=>⟨a,b,g (U<|.head _) q⟩
  e2:=x.e2.imp fun a q=>g (W q) q
  vars:=x.vars.imp fun a q=>g (W q) q
  eP:=x.eP.imp fun a q=>g (W q) q
  tup:=g (tup x.tup) x.tup
  data:=g (tup x.data) x.data
  subs:=x.subs.imp fun a q=>g (W q) q
  each:=fun p Y=>⟨g (inst (x.each p Y).1) (x.each p Y).1,g (U<|.tail _<|.tail _<|List.mem_map_of_mem (f:=fi) Y) (x.each p Y).2⟩
  aC:=x.aC
  names:=x.names
  st:=x.st}
theorem aN.np{A aY M m D h}(x:aN A aY M m D h){e C d c o}(Z:h e=some (.bD C d c)):aN A aY M m D (h.set e o):=by obtain⟨X,Y,W,rfl,rfl⟩:=x;exact⟨X,Y.np Z (by simp) (by simp) (Y.sL Z ⟨by simp,by simp⟩) (by simp),W,rfl,rfl⟩
theorem aN.Iq{A aY M m D h}(x:aN A aY M m D h){e es o}(Z:e∉D)(Y:h e=some (.bK es)):aN A aY M m D (h.set e o):=by obtain⟨X,W,V,rfl,rfl⟩:=x;exact⟨X,W.np Y (by simp) (by simp) Z (by simp),V,rfl,rfl⟩
theorem au.own{D h Z Y}(x:au D h Z Y){e o}(X:h e=none):au D h Z (Y.set e o)where
 keep:=fun a o' W q=>(bl<|bv X q).trans (x.keep a o' W q)
 grow:=x.grow
 all:=fun a q=>by by_cases z:a=e;subst z;exact X;exact x.all a<|(bl z).symm.trans q
theorem aN.lG{A aY M m D h}(x:aN A aY M m D h){dep' sp ep}:aN A dep' M m D (h.set A.e1<|.bK<|hD A dep' sp ep)/\au D h D (h.set A.e1<|.bK<|hD A dep' sp ep):=by obtain⟨Z,Y,X,rfl,rfl⟩:=x;exact⟨⟨Z,Y.lG,X,rfl,rfl⟩,au.set<|.head _⟩
def Runs(C:eW)(A:fh)(n:Nat)(T:aa)(M:cr)(m:Nat)(W:cr)(a8:Nat)(R:Except cb aa):Prop:=
 ∀(D:aa)(h:ar)(P:a3 V)(E:a3 Nat),aN A 1 M m D h->(∀r Z X,R=.ok r->aN A 1 W a8 X Z->au D h X Z->P (.S r) Z)->(∀e Z X U,R=.error U->aN A 1 W a8 X Z->au D h X Z->hE X h Z e U->E e Z)->C n none (.Y 989) [.Y A.H,.S T] P E h
variable{M:cr}{m:Nat}{D:aa}
theorem aN.own{K}(x:aN A aY M m D h){Z f}(X:mY.lookup Z=some f)(W:∀sp ep,aH Z (hD A aY sp ep)=none)(k:K (.fn (.Y f) [.Y A.H])):kW (eh C ax n) h (.Y A.H) (.bE Z) K:=by obtain⟨U,V,T,rfl,rfl⟩:=x;exact V.own X W k
theorem x0(c:aQ C ax)(b:n<=86){a l a8 R}(hr:Runs C A (n+1) a M m l a8 R)(x:aN A 0 M m D h)(kv:∀r U G,R=.ok r->aN A 0 l a8 G U->au D h G U->P (.S r) U)(ke:∀e U G u,R=.error u->aN A 0 l a8 G U->au D h G U->hE G h U e u->E e U):C n none (.Y 744) [.Y A.H,.S a] P E h:=by
 have a5:=x;refine x.elim fun bk Z=>?_;refine Z.1.dict.elim fun sp ep W=>?_;refine c.fn rfl (af b) ?_;refine dB Z.1.host W (v:=.ae 0) rfl rfl (by exact hq) ?_;refine dB Z.1.host W (v:=.ae 40) rfl rfl (by exact hq) ?_;refine Z.1.own rfl (fun O O=>rfl) ?_;refine c.fn rfl (am b) ?_;refine Z.1.e2.elim fun et ht=>?_;refine dB Z.1.host W (v:=.Y A.T) rfl rfl (by exact eU) ?_;refine gX ht ?_;refine dB Z.1.host W (v:=.Y A.T) rfl rfl (by exact eU) ?_;refine dA ht (v:=.Y 989) rfl ?_;refine dB Z.1.host W (v:=.ae 0) rfl rfl (by exact hq) ?_;refine jl Z.1.host W rfl (a1) ?_;have Q:=a5.lG (dep':=1) (sp:=sp) (ep:=ep);refine hr D _ _ _ Q.1 (fun r k t j J B=>?_) fun e k t u j J B a0=>?_;have V:=J;refine J.elim fun a2 L=>?_;refine L.1.dict.elim fun I ep2 X=>?_;refine dB L.1.host X (v:=.ae 1) rfl rfl (by exact hq) ?_;refine jl L.1.host X rfl (a1) ?_;have p:=V.lG (dep':=0) (sp:=I) (ep:=ep2);exact kv r _ t j p.1<|(Q.2.trans B).trans p.2
 .obtain⟨bq,eq,d,F,q,y,gI,w,i,g⟩:=a0;have eq:h e=none:=Q.2.all _ eq;refine Hc w.2 ?_;have V:=J.np (o:=.bD 84 d ⟨F.ctx,true⟩) w.2;have f:=(Q.2.trans B).own (o:=.bD 84 d ⟨F.ctx,true⟩) eq;have s:=V;refine V.elim fun a2 K=>?_;refine K.1.dict.elim fun I ep2 X=>?_;refine dB K.1.host X (v:=.ae 1) rfl rfl (by exact hq) ?_;refine jl K.1.host X rfl (a1) ?_;have N:=s.lG (dep':=0) (sp:=I) (ep:=ep2);have a6:e≠A.e1:=fun z=>by rw[<-z]at X;have:(k.set e (.bD 84 d ⟨F.ctx,true⟩)) e=some (.bD 84 d ⟨F.ctx,true⟩):=aD;rw[this]at X;cases X
  have le:Loc t ((k.set e (.bD 84 d ⟨F.ctx,true⟩)).set A.e1 (.bK (hD A 0 I ep2))) e (.bD 84 d ⟨F.ctx,true⟩):=N.2.loc ⟨w.1,aD⟩;have a3:d≠e:=fun z=>by subst z;exact absurd (i.2.symm.trans w.2) (by simp)
  have a4:q≠e:=fun z=>by subst z;exact absurd (g.2.symm.trans w.2) (by simp)
  refine⟨⟨84,d,_,le.2,rfl⟩,?_⟩;exact ke e _ t u j N.1 (f.trans N.2) ⟨bq,eq,d,_,q,y,Q.2.all _ gI,le,N.2.loc ⟨i.1,(bl a3).trans i.2⟩,N.2.loc ⟨g.1,(bl a4).trans g.2⟩⟩
theorem s_call(c:aQ C ax)(V:n<=84)(x:aN A aY M m D h){q sub ws}(K:Loc D h q (.ag<|.S c3::.S sub::ws))(N:ws.length<=1000000){f}(U:aH sub eO=some (.Y f))(k:∀J G,aN A aY M m D J->au D h D J->(∀r F,P (.S r) F->G (.S r) F)->C (n+4) none (.Y f) [.Y A.H,.Y q] G E J):C n none (.Y 758) [.Y A.H,.Y q] P E h:=by have z:=x;refine x.elim fun o Z=>?_;refine Z.1.dict.elim fun sp ep T=>?_;refine Z.1.eP.elim fun d5 y=>?_;have W:=z.lG (dep':=aY) (sp:=sp+1) (ep:=ep);refine c.fn rfl (af V) ?_;refine xg K.2 (by simp;exact af N) ?_;refine Z.1.own rfl (fun O O=>rfl) ?_;refine c.fn rfl (am V) ?_;refine bj K.2 (v:=.S c3) rfl ?_;refine dB Z.1.host T (v:=.Y A.dn) rfl rfl (by exact eU) ?_;refine gX y ?_;refine Z.1.own rfl (fun O O=>rfl) ?_;refine c.fn rfl (cW V) ?_;refine dB Z.1.host T (v:=.ae sp) rfl rfl (by exact hq) ?_;refine jl Z.1.host T rfl (a1) ?_;change run _ _ _ _ _ _ _ _ (h.set A.e1<|.bK<|hD A aY (sp+1) ep);have I:=W.1;refine I.elim fun u X=>?_;refine X.1.dict.elim fun t s R=>?_;refine X.1.eP.elim fun p B=>?_;have Q:=W.2.loc K;refine dB X.1.host R (v:=.a5) rfl rfl (by simp) ?_;refine dB X.1.host R (v:=.Y A.dn) rfl rfl (by exact eU) ?_;refine bj Q.2 (v:=.S c3) rfl ?_;refine dA B (v:=.Y A.px) rfl ?_;refine eY X.1.tup ?_;refine c.fn rfl (cW V) ?_;refine c.fn rfl (by exact((aF 0x2a07202042d07302604c0900928101) V)) ?_;refine eY X.1.data ?_;refine c.len_list Q.2 (by simp;exact af N) ?_;refine X.1.subs.elim fun es L=>?_;refine bj Q.2 (v:=.S sub) rfl ?_;refine gX L ?_;rw[U];refine dA L (v:=.Y f) U ?_;refine k _ _ W.1 W.2 fun r l w=>?_;refine c.wL ?_;refine c.wM ?_;exact w
end
end
noncomputable def ci(i:Int):aa:=((toString i:PySem.Str).cps).toList
def dW(t k:aa)(ad:List aa):Except cb aa:=(a0 t).map fun d=>bg<|put k ((aH k d).getD []++ad.flatten) d
def df(t k:aa)(ad:List aa):Except cb aa:=match a0 t with
 |.error e=>.error e
 |.ok d=>match aH k d with
  |none=>.ok<|bg<|put k (dm ad) d
  |some u=>match cO u with|.error e=>.error e|.ok l=>.ok<|bg<|put k (dm<|l++ad) d
def cJ(t k b:aa):Except cb aa:=match a0 t with
 |.error e=>.error e
 |.ok d=>match aH k d with
  |none=>match wholeOf b with
   |none=>.error<|lw b
   |some _=>.ok<|bg<|put k b d
  |some u=>match wholeOf u with
   |none=>.error<|lw u
   |some o=>match wholeOf b with
    |none=>.error<|lw b
    |some i=>.ok<|bg<|put k (ci<|o+i) d
theorem Ir{e}(h:e.msg.length<=200):(hy e).msg.length<=1000:=by
 unfold hy;dsimp only;split
 .simp;exact af h
 .split
  .simp;exact af h
  .exact af h
theorem eQ{t Z}(h:a0 t=.error Z):Z.msg.length<=1000:=by
 unfold a0 at h;rcases q:cO t with e|l
 .rw[q]at h;obtain rfl:=Except.error.inj h;exact Ir (sx q).1
 .rw[q]at h;by_cases c:l.length%2=1;exact Except.error.inj ((if_pos c).symm.trans h)▸aL;exact nomatch (if_neg c).symm.trans h
theorem x1{t k v Z}(h:cZ t k v=.error Z):Z.msg.length<=1000:=by
 unfold cZ at h;rcases q:a0 t with e|d
 .rw[q]at h;obtain rfl:=Except.error.inj h;exact eQ q
 .rw[q]at h;trivial
theorem It{t k Z}(h:km t k=.error Z):Z.msg.length<=1000:=by
 unfold km at h;rcases q:a0 t with e|d
 .rw[q]at h;obtain rfl:=Except.error.inj h;exact eQ q
 .rw[q]at h;trivial
theorem Iu{t k Y v Z}(h:gA t k Y v=.error Z):Z.msg.length<=1000:=by
 unfold gA at h;rcases q:a0 t with e|d
 .rw[q]at h;obtain rfl:=Except.error.inj h;exact eQ q
 .
  rw[q]at h;dsimp only at h;split at h;trivial
  .split at h;rename_i e X;obtain rfl:=Except.error.inj h;exact eQ X;trivial
theorem x2(k):(lx k).msg.length<=k.length+100:=by unfold lx;simp
theorem sP(k):(lw k).msg.length<=k.length+100:=by unfold lw;simp
theorem Iv{t k Y Z}(X:k.length<=100000)(h:gB t k Y=.error Z):Z.msg.length<=1000000:=by
 unfold gB at h;rcases q:a0 t with e|d
 .rw[q]at h;obtain rfl:=Except.error.inj h;have:=eQ q;exact af this
 .
  rw[q]at h;dsimp only at h;split at h;obtain rfl:=Except.error.inj h;have:=x2 k;exact((az n0) X this)
  .split at h;rename_i e W;obtain rfl:=Except.error.inj h;have:=eQ W;exact af this;trivial
section
open PySem
def Upd(A:fh)(aY:Int)(M:cr)(m:Nat)(D:aa)(h:ar)(nm:aa)(F:Except cb aa)(P:a3 V)(E:a3 Nat):Prop:=
 (∀r Z Y,F=.ok r->aN A aY (setM M nm<|some r) (m+3) Y Z->au D h Y Z->P (.S r) Z)/\(∀e Z Y X,F=.error X->aN A aY M (m+3) Y Z->au D h Y Z->hE Y h Z e X->E e Z)
section
variable{C:eW}{ax:Nat->Option (List V)}{n:Nat}{U:Option Nat}{P:a3 V}{E:a3 Nat}{h:ar}{A:fh}{aY:Int}{M:cr}{m:Nat}{D:aa}
theorem Upd.fin{nm F}(u:Upd A aY M m D h nm F P E)(c:aQ C ax)(U:n<=84)(T:m<=900000){Z X}(x:aN A aY M (m+1) X Z)(st:au D h X Z){r}(R:F=.ok r):C n none (.Y 885) [.Y A.H,.S nm,.S r] P E Z:=
 gD c U x (am T) fun Q O W V=>u.1 r Q O R (W.more<|aF 0x1822014098120128100)<|st.trans V
theorem Upd.lI{nm F}(u:Upd A aY M m D h nm F P E)(c:aQ C ax)(V:n<=84)(U:m<=900000){Z X}(x:aN A aY M (m+1) X Z)(st:au D h X Z){W}(e:Ext Z W){r}(T:F=.ok r):C n none (.Y 885) [.Y A.H,.S nm,.S r] P E W:=
 u.fin c V U (x.ext e) (st.trans<|au.ext e) T
theorem Upd.bad{nm F}(u:Upd A aY M m D h nm F P E){Y X}(x:aN A aY M (m+1) X Y)(st:au D h X Y){W e Z a7}(y:cq Y W e a7 Z)(V:F=.error Z)(U:Z.msg.length<=1000000):E e W:=
 u.2 e W X Z V ((x.ext y.ext).more<|aF 0x608805024028100) (st.trans<|au.ext y.ext) ((y.toN x U).pre st)
theorem x3(c:aQ C ax)(X:n<=76)(x:aN A aY M m D h)(T:m<=900000){q J bq nm t k v}(W:Loc D h q (.ag [.S J,.S bq,.S nm,.S k,.S v]))(R:nm.length<=800000)(I:M nm=some t)(G:t.length<=100000)(F:k.length<=100000)(Q:v.length<=100000)(u:Upd A aY M m D h nm (cZ t k v) P E):C n none (.Y 561) [.Y A.H,.Y q] P E h:=by refine c.fn rfl (af X) ?_;refine c.len_list W.2 (a1) ?_;refine x.own rfl (fun O O=>rfl) ?_;refine bj W.2 (v:=.S nm) rfl ?_;refine bj W.2 (v:=.S nm) rfl ?_;refine kq c (am X) x (af T) R I fun N o L Z=>?_;have V:=Z.loc W;refine ej (t:=[.S k]) V.2 rfl (a1) rfl rfl ?_;intro p B;have U:Ext N (N.set p (.ag [.S k])):=aw B;refine bj (U _ _ V.2) (v:=.S v) rfl ?_;refine HO c (am X) G F Q (aD) (fun r z w s=>?_) fun e z l a7 K y=>?_;exact u.lI c (am X) T L Z (U.trans s) w;exact u.bad L Z (y.pre U) K (by have:=x1 K;exact af this)
theorem Iw(c:aQ C ax)(W:n<=76)(x:aN A aY M m D h)(R:m<=900000){q G bq nm t k Z v}(V:Loc D h q (.ag [.S G,.S bq,.S nm,.S k,.S Z,.S v]))(Q:nm.length<=800000)(F:M nm=some t)(B:t.length<=100000)(z:k.length<=100000)(N:Z.length<=100000)(L:v.length<=100000)(u:Upd A aY M m D h nm (gA t k Z v) P E):C n none (.Y 561) [.Y A.H,.Y q] P E h:=by refine c.fn rfl (af W) ?_;refine c.len_list V.2 (a1) ?_;refine x.own rfl (fun O O=>rfl) ?_;refine bj V.2 (v:=.S nm) rfl ?_;refine bj V.2 (v:=.S nm) rfl ?_;refine kq c (am W) x (af R) Q F fun K j J X=>?_;have U:=X.loc V;refine ej (t:=[.S k,.S Z]) U.2 rfl (a1) rfl rfl ?_;intro p w;have T:Ext K (K.set p (.ag [.S k,.S Z])):=aw w;refine bj (T _ _ U.2) (v:=.S v) rfl ?_;refine HP c (am W) B z N L (aD) (fun r s o l=>?_) fun e s i a7 I y=>?_;exact u.lI c (am W) R J X (T.trans l) o;exact u.bad J X (y.pre T) I (by have:=Iu I;exact af this)
theorem Ix(c:aQ C ax)(X:n<=76)(x:aN A aY M m D h)(V:m<=900000){q K bq nm t k}(W:Loc D h q (.ag [.S K,.S bq,.S nm,.S k]))(U:nm.length<=800000)(J:M nm=some t)(I:t.length<=100000)(u:Upd A aY M m D h nm (km t k) P E):C n none (.Y 568) [.Y A.H,.Y q] P E h:=by refine c.fn rfl (af X) ?_;refine c.len_list W.2 (a1) ?_;refine x.own rfl (fun O O=>rfl) ?_;refine bj W.2 (v:=.S nm) rfl ?_;refine bj W.2 (v:=.S nm) rfl ?_;refine kq c (am X) x (af V) U J fun T w R Z=>?_;have Q:=Z.loc W;refine ej (t:=[.S k]) Q.2 rfl (a1) rfl rfl ?_;intro p G;have N:Ext T (T.set p (.ag [.S k])):=aw G;refine HQ c (am X) I (aD) (fun r F B z=>?_) fun e F s a7 L y=>?_;exact u.lI c (am X) V R Z (N.trans z) B;exact u.bad R Z (y.pre N) L (by have:=It L;exact af this)
theorem Iy(c:aQ C ax)(W:n<=76)(x:aN A aY M m D h)(U:m<=900000){q G bq nm t k Z}(V:Loc D h q (.ag [.S G,.S bq,.S nm,.S k,.S Z]))(T:nm.length<=800000)(F:M nm=some t)(B:t.length<=100000)(R:k.length<=100000)(Q:Z.length<=100000)(u:Upd A aY M m D h nm (gB t k Z) P E):C n none (.Y 568) [.Y A.H,.Y q] P E h:=by refine c.fn rfl (af W) ?_;refine c.len_list V.2 (a1) ?_;refine x.own rfl (fun O O=>rfl) ?_;refine bj V.2 (v:=.S nm) rfl ?_;refine bj V.2 (v:=.S nm) rfl ?_;refine kq c (am W) x (af U) T F fun N l L X=>?_;have K:=X.loc V;refine ej (t:=[.S k,.S Z]) K.2 rfl (a1) rfl rfl ?_;intro p z;have J:Ext N (N.set p (.ag [.S k,.S Z])):=aw z;refine HR c (am W) B R Q (aD) (fun r w s o=>?_) fun e w j a7 I y=>?_;exact u.lI c (am W) U L X (J.trans o) s;exact u.bad L X (y.pre J) I<|Iv R I
theorem x4(l):l.flatten.length=b3 l:=length_flatten
theorem Iz(c:aQ C ax)(W:n<=76)(x:aN A aY M m D h)(B:m<=900000){q l bq nm t k v ad}(J:Loc D h q (.ag<|([l,bq,nm,k]++(v::ad)).map .S))(z:nm.length<=800000)(g:M nm=some t)(N:t.length<=100000)(f:k.length<=100000)(Z:b3 (v::ad)+ad.length<=100000)(u:Upd A aY M m D h nm (dW t k<|v::ad) P E):C n none (.Y 540) [.Y A.H,.Y q] P E h:=by
 refine c.fn rfl (af W) ?_;refine c.len_list J.2 (dr<|Nat.add_le_add_right ((az jH) Z) 5) ?_;refine bj J.2 (v:=.S nm) rfl ?_;refine kq c (am W) x (af B) z g fun b D1 I T=>?_;have X:=T.loc J;refine dS c (am W) (af N) (fun a G d ep U L ha R=>?_) (fun e G er a7 U y=>u.bad I T y (a4 U) (by have:=eQ U;exact af this));have F:=cH U;refine bj (L _ _ X.2) (v:=.S k) rfl ?_;refine c.len_list (L _ _ X.2) (dr<|Nat.add_le_add_right ((az jH) Z) 5) ?_;refine a9 (fun h9=>absurd h9<|by simp;exact(aF 0x204c09813026048049250198170)) fun O=>?_;refine xc R ?_;refine xf R ?_;rw[dJ];have K:((aH k d).getD []).length<=600000:=by
  rcases q:aH k d with _|v
  .exact(zero_le _)
  .have:=HJ q;exact((aT 0x82102702003036220430d404480c0c249f00a1210203) N F this)
 have w:((aH k d).map V.S).getD (.S [])=.S ((aH k d).getD []):=by cases aH k d<;>rfl
 rw[w];refine eK rfl ?_;refine ej (t:=(v::ad).map .S) (L _ _ X.2) (lu (a:=4)<|a1) (dr<|Nat.add_le_add_right ((az jH) Z) 5) rfl rfl ?_;intro p hp;have s:Ext G (G.set p (.ag ((v::ad).map .S))):=aw hp;refine kh (aD) (kk _) (by simp only[length_cons,length_nil,Nat.zero_add,Nat.one_mul];exact cW (n:=b3 (v::ad)+ad.length) (m:=100000) (i:=1) (j:=1) Z rfl) ?_;rw[pg];refine⟨by rw[x4];exact((aT 0x124f805090810c350112200281080000019200828102) Z K),?_⟩;refine eB (s _ _ R) (by rw[fB];exact((aT p7) N F)) fun e=>?_;rw[fU];have r:=e0 k ((aH k d).getD []++(v::ad).flatten) d;have o:((aH k d).getD []++(v::ad).flatten).length<=700000:=by rw[length_append,x4];exact((aT 0x927c0284840861a808910014085573014200828102) Z K)
 refine g0 c (am W) (aD) (ek<|cG U) (show bH _<=_ by exact((bV 0x5573014282041010a010a04c824620400606c840861a808911020c35011203030f424005c988105) N f F r o)) fun h3 x3=>?_;have Q:Ext b h3:=((L.trans s).own ha _).trans x3;refine(I.ext Q).own rfl (fun O O=>rfl) ?_;refine bj (Q _ _ X.2) (v:=.S nm) rfl ?_;exact u.lI c (am W) B I T Q<|a4 U
theorem Upd.sQ{nm F}(u:Upd A aY M m D h nm F P E)(c:aQ C ax)(U:n<=78)(Q:m<=900000){X W T}(x:aN A aY M (m+1) T X)(st:au D h T X)(e:Ext X W){a ep d}(R:W a=some (.av (br d) ep))(aC:(d.map (·.1)).Nodup)(O:bH d<=8000000)(N:F=.ok (bg d)){G:V->ar->Prop}(L:∀Z,C n none (.Y 885) [.Y A.H,.S nm,.S<|bg d] P E Z->G (.S<|bg d) Z):C n none (.Y 364) [.Y a] G E W:=
 g0 c (af U) R aC O fun Z K=>L Z<|u.lI c (af U) Q x st (e.trans K) N
theorem IA(c:aQ C ax)(V:n<=76)(x:aN A aY M m D h)(hm:m<=900000){q w0 bq nm t k v ad}(hq:Loc D h q (.ag<|([w0,bq,nm,k]++(v::ad)).map .S))(a3:nm.length<=800000)(hv:M nm=some t)(Q:t.length<=100000)(hk:k.length<=100000)(X:b3 (v::ad)+ad.length<=100000)(u:Upd A aY M m D h nm (df t k<|v::ad) P E):C n none (.Y 547) [.Y A.H,.Y q] P E h:=by
 refine c.fn rfl (af V) ?_;refine c.len_list hq.2 (by exact dr<|Nat.add_le_add_right ((az jH) X) 5) ?_;refine bj hq.2 (v:=.S nm) rfl ?_;refine kq c (am V) x (af hm) a3 hv fun h1 D1 J T=>?_;have W:=T.loc hq;refine dS c (am V) (af Q) (fun a I d ep U N ha L=>?_) (fun e I er a7 U y=>u.bad J T y (by unfold df;exact Z U rfl) (by have:=eQ U;exact af this));have hz:=cH U;have a0:d.length<=600000:=by exact((aT lY) Q hz)
 refine bj (N _ _ W.2) (v:=.S k) rfl ?_;refine gX L ?_;rw[dJ];rcases G:aH k d with _|w
 .
  have hF:df t k (v::ad)=.ok (bg (put k (dm (v::ad)) d)):=by unfold df;rw[U];dsimp only;exact Z G rfl
  refine ej (t:=(v::ad).map .S) (N _ _ W.2) (lu (a:=4)<|by exact aL) (by exact dr<|Nat.add_le_add_right ((az jH) X) 5) rfl rfl ?_;intro p hp;have i:Ext I (I.set p (.ag ((v::ad).map .S))):=aw hp;refine lz c (am V) (aD) (by exact((az 0x61a808910014061e84800b981221406c0409a8101) X)) fun R f=>?_;have a1:Ext I R:=i.trans f;have F:=lC<|v::ad;simp only[length_cons]at F;refine eB (a1 _ _ L) (by rw[fB];exact af a0) fun e=>?_;rw[fU];have B:=e0 k (dm<|v::ad) d;have z:Ext h1 (R.set a (.av (br (put k (dm (v::ad)) d)) e)):=(N.trans a1).own ha _;refine(J.ext z).own rfl (fun O O=>rfl) ?_;refine bj (z _ _ W.2) (v:=.S nm) rfl ?_;exact u.sQ c (am V) hm J T z (aD) (ek<|cG U) (by exact((gM 0x20215021409a049840840930b04c8409a510200181b4102186a0224c10581861a808911020c35011203030f424005cb08106) Q hk X hz F B)) hF fun h4 g=>g
 .
  have K:=gz U G;refine c.len_list (N _ _ W.2) (by exact dr<|Nat.add_le_add_right ((az jH) X) 5) ?_;refine a9 (fun h9=>absurd (show(4:Int)<_ from by exact(aF 0x204c09813026048049250198170)) h9) fun O=>?_;refine dA L (v:=.S w) (by rw[dJ,G];rfl) ?_;refine s_split c (am V) (by exact((az qe) Q K)) (fun b R l s f hb a4=>?_) (fun e R er s y=>u.bad J T (y.pre N) (by unfold df;rw[U];dsimp only;rw[G];dsimp only;exact Z s rfl) (by have:=(sx s).1;exact af this));have r:=lA s;have hF:df t k (v::ad)=.ok (bg (put k (dm (l++(v::ad))) d)):=by unfold df;rw[U];dsimp only;rw[G];dsimp only;exact Z s rfl
  refine ej (t:=(v::ad).map .S) ((N.trans f) _ _ W.2) (lu (a:=4)<|by exact aL) (by exact dr<|Nat.add_le_add_right ((az jH) X) 5) rfl rfl ?_;intro p hp;have i:Ext R (R.set p (.ag ((v::ad).map .S))):=aw hp;refine add_list (i _ _ a4) (aD) (by exact Z (length_map ..)<|Z (length_map ..)<|(bV 0x3082040018810c3501124042810c3501120204200000064c09209028104) Q X K r.2) ?_;rw[<-map_append];intro o ho;have xo:Ext R ((R.set p (.ag ((v::ad).map .S))).set o (.ag ((l++(v::ad)).map .S))):=i.trans<|aw ho;have F:=lC<|l++(v::ad);simp only[length_cons,length_append,ph]at F;refine lz c (am V) (aD) (by simp only[length_cons,length_append,ph];exact((fK 0xc2880c0c20810003181861a80892021406186a022406061e84800b98124128501b1081409a8105) Q X K r.1 r.2)) fun h4 x4=>?_;have a2:Ext I h4:=(f.trans xo).trans x4;refine eB (a2 _ _ L) (by rw[fB];exact af a0) fun e=>?_;rw[fU];have B:=e0 k (dm<|l++(v::ad)) d;have j:Ext h1 (h4.set a (.av (br (put k (dm (l++(v::ad))) d)) e)):=(N.trans a2).own ha _;refine(J.ext j).own rfl (fun O O=>rfl) ?_;refine bj (j _ _ W.2) (v:=.S nm) rfl ?_;exact u.sQ c (am V) hm J T j (aD) (ek<|cG U) (by exact((Aa 0x1010c010a04d0252204204984e16099060a04d4081028718182861018005141000606d040861a80893041606186a0224440830d4044808050f424005cc88109) Q hk X hz K r.1 r.2 F B)) hF fun h4 g=>g
theorem x5(c:aQ C ax)(F:n<=76)(hm:m<=900000){q nm t k b ws L D1}(K:aN A aY M (m+1) D1 L)(Q:au D h D1 L)(hq:L q=some (.ag ws))(a1:ws[2]?=some (.S nm))(B:t.length<=100000)(hk:k.length<=100000)(J:b.length<=100000)(aj:∀d u o i,a0 t=.ok d->aH k d=some u->wholeOf u=some o->wholeOf b=some i->(o+i).natAbs.log2<1920/\(ci<|o+i).length<=100000){d a ep y I}(U:a0 t=.ok d)(z:Ext L I)(ha:L a=none)(N:I a=some (.av (br d) ep))(u:Upd A aY M m D h nm (cJ t k b) P E):
  run (eh C ax<|n+1) none (cf [.aB (.aA .In (.x 3)<|.x 2) [.aG 5<|.bW (.k<|.Y 237) [(.aE (.x 2)<|.x 3)],.c0 (.x 2) (.x 3)<|.bW (.k<|.cg "str") [(.aM .Add (.x 5)<|.bW (.k<|.Y 237) [(.x 4)])]] [.bF<|.bW (.k<|.Y 237) [(.x 4)],.c0 (.x 2) (.x 3)<|.x 4],
   .ay (.aZ (.x 0) (.bE dK) [(.aE (.x 1)<|.k<|.ae 2),(.bW (.k<|.Y 364) [(.x 2)])])]) (jf P) (jg P) (jh E) [] [some<|.Y A.H,some<|.Y q,some<|.Y a,some<|.S k,some<|.S b,y] I:=by
 have hz:=cH U;have s:d.length<=600000:=by exact((aT lY) B hz)
 refine gX N ?_;rw[dJ];have fin:∀{W:ar}{r:aa}{y:Option V},Ext I W->r.length<=200000->cJ t k b=.ok (bg (put k r d))->∀e,run (eh C ax (n+1)) none (cf [.ay (.aZ (.x 0) (.bE dK) [(.aE (.x 1) (.k (.ae 2))),(.bW (.k (.Y 364)) [(.x 2)])])]) (jf P) (jg P) (jh E) [] [some (.Y A.H),some (.Y q),some (.Y a),some (.S k),some (.S b),y] (W.set a (.av (br (put k r d)) e)):=by intro W r y R hr hF e;have a2:=e0 k r d;have G:Ext L (W.set a (.av (br (put k r d)) e)):=(z.trans R).own ha _;exact(K.ext G).own rfl (fun O O=>rfl)<|eA (G _ _ hq) (v:=.S nm) (by exact Z (show(2:Int)=((2:Nat):Int) from rfl)<|Z gV a1) (by exact Int.NonNeg.mk _) (by exact bQ)<|u.sQ c (am F) hm K Q G (aD) (ek<|cG U) (by exact((bV 0x10109810a04c824820430d40244c40800606c840861a808911020c35011203030f424005ca08105) B hk hz hr a2)) hF fun j g=>g
 rcases T:aH k d with _|w
 .
  refine sr c (am F) (af J) (fun i W X R=>?_) (fun e W X y=>u.bad K Q (y.pre z) (by unfold cJ;rw[U];dsimp only;rw[T];exact Z X rfl) (by have:=sP b;exact((az n0) J this)));refine eB (R _ _ N) (by rw[fB];exact af s) fun e=>?_;rw[fU];exact fin R (af J) (by unfold cJ;rw[U];dsimp only;rw[T];exact Z X rfl) e
 .
  have p:=gz U T;refine dA N (v:=.S w) (by rw[dJ,T];rfl) ?_;refine sr c (am F) (by exact((az 0x440861a808901021e8480060888102) B p)) (fun o W f R=>?_) (fun e W X y=>u.bad K Q (y.pre z) (by unfold cJ;rw[U];dsimp only;rw[T];dsimp only;exact Z X rfl) (by have:=sP w;exact((aT 0x640e4422102000440861a808901021e848050908103) B p this)));refine sr c (am F) (af J) (fun i j X x4=>?_) (fun e W X y=>u.bad K Q (y.pre<|z.trans R) (by unfold cJ;rw[U];dsimp only;rw[T];dsimp only;rw[f];exact Z X rfl) (by have:=sP b;exact((az n0) J this)));have l:Ext I j:=R.trans x4;have z4:=aj d w o i U T f X;refine c.ll z4.1 ?_;refine eB (l _ _ N) (by rw[fB];exact af s) fun e=>?_;show run _ _ _ _ _ _ _ _ (j.set a<|.av (put k (.S<|ci<|o+i)<|br d) e);rw[fU];exact fin l (af z4.2) (by unfold cJ;rw[U];dsimp only;rw[T];dsimp only;rw[f];exact Z X rfl) e
theorem IB(c:aQ C ax)(R:n<=76)(x:aN A aY M m D h)(N:m<=900000){q}{F bq nm t k b:aa}{ws}(T:(ws=[]/\b=[49])\/ws=[.S b])(L:Loc D h q (.ag<|[.S F,.S bq,.S nm,.S k]++ws))(B:nm.length<=800000)(r:M nm=some t)(K:t.length<=100000)(z:k.length<=100000)(w:b.length<=100000)(aj:∀d u o i,a0 t=.ok d->aH k d=some u->wholeOf u=some o->wholeOf b=some i->(o+i).natAbs.log2<1920/\(ci<|o+i).length<=100000)(u:Upd A aY M m D h nm (cJ t k b) P E):C n none (.Y 554) [.Y A.H,.Y q] P E h:=by
 refine c.fn rfl (af R) ?_;refine c.len_list L.2 (by rcases T with⟨rfl,_⟩|rfl<;>exact aL) ?_;intro p l;have J:Ext h (h.set p (.an [.ae 4,.ae 5])):=aw l;have cv:au D h D (h.set p (.an [.ae 4,.ae 5])):=au.ext J;refine ei (aD) rfl (by exact aL) ?_;have I:dh (.ae (([V.S F,.S bq,.S nm,.S k]++ws).length:Nat)) [.ae 4,.ae 5]=true:=by rcases T with⟨rfl,_⟩|rfl<;>rfl
 rw[I];refine bj (J _ _ L.2) (v:=.S nm) rfl<|kq c (am R) (x.ext J) (af N) B r fun j g G X=>?_;have X:au D h g j:=cv.trans X;have W:=X.loc L;refine dS c (am R) (af K) (fun a f d ep U Q s O=>?_) (fun e f er a7 U y=>u.bad G X y (by unfold cJ;exact Z U rfl) (by have:=eQ U;exact af this));refine bj (Q _ _ W.2) (v:=.S k) rfl ?_;refine c.len_list (Q _ _ W.2) (by rcases T with⟨rfl,_⟩|rfl<;>exact aL) ?_;rcases T with⟨rfl,rfl⟩|rfl
 .exact x5 c R N G X W.2 rfl K z w aj U Q s O u
 .exact bj (Q _ _ W.2) (v:=.S b) rfl<|x5 c R N G X W.2 rfl K z w aj U Q s O u
noncomputable def iL:aa:=nO
noncomputable def fV:aa:=[116,104,101,32,107,101,121]
noncomputable def fF:aa:=p2
noncomputable def nName:aa:=kv
noncomputable def hF:aa:=p3
noncomputable def eC:aa:=p1
noncomputable def fG:aa:=[116,104,101,32,111,116,104,101,114]
noncomputable def bw:aa:=nP
noncomputable def nq:aa:=[99,111,112,121]
noncomputable def nr:aa:=[103,105,118,101]
noncomputable def js:aa:=g4
noncomputable def iM:aa:=dK
noncomputable def ns:aa:=kF
def fj(M:cr)(nm:aa)(F:Except cb aa):cr:=match F with
 |.ok r=>setM M nm<|some r
 |.error _=>M
theorem IC(c:aQ C ax)(W:n<=70)(T:m<=800000){k v t}(H:M fV=some k)(G:M fF=some v)(i:M iL=some t)(g:t.length<=100000)(aH:k.length<=100000)(d:v.length<=100000):Runs C A n nq M m (fj M iL<|cZ t k v) (m+5) (cZ t k v):=by intro D h P E x b a;refine c.fn rfl (af W) ?_;refine x.own rfl (fun O O=>rfl) ?_;refine x.own rfl (fun O O=>rfl) ?_;refine fE c (am W) x (af T) (aL) (fun k' F B Y z y=>?_) fun e F B Y=>absurd (Y.symm.trans H) fo;cases Y.symm.trans H;refine z.own rfl (fun O O=>rfl) ?_;refine fE c (am W) z (am T) (aL) (fun v' R w u Q s=>?_) fun e F B Y=>absurd (Y.symm.trans G) fo;cases u.symm.trans G;have N:au D h w R:=y.trans s;intro q L;have p:Ext R (R.set q (.ag [.S c3,.S jF,.S iL,.S k,.S v])):=aw L;refine s_call c (am W) (Q.ext p) (Q.new L) (aL) (f:=561) rfl fun h3 P1 a0 U hP=>?_;have X:au D h w h3:=(N.trans<|au.ext p).trans U;refine x3 c (cW W) a0 (cW T) (U.loc<|Q.new L) (aL) i g aH d ⟨fun r K J o I V=>hP _ _ ?_,fun e K J er l I V j=>?_⟩;exact b r K J o (Z o<|I.more<|aF 0x141900b04604c0900928100)<|X.trans V;exact a e K J er l (Z l<|I.more<|aF 0x141900b04604c0900928100) (X.trans V)<|j.pre X
theorem ID(c:aQ C ax)(Y:n<=70)(T:m<=800000){v}(X:M fF=some v):Runs C A n nr M m M (m+5) (.ok v):=by intro D h P E x S Q;refine c.fn rfl (af Y) ?_;refine x.own rfl (fun O O=>rfl) ?_;refine fE c (am Y) x (af T) (aL) (fun N W V Z R U=>?_) fun e W V Z=>absurd (Z.symm.trans X) fo;cases Z.symm.trans X;exact S v W V rfl (R.more<|aF 0xa0c805024028100) U
theorem IE(c:aQ C ax)(Z:n<=70):Runs C A n js M m M (m+5) (.ok js):=by intro D h P E x Y X;refine c.fn rfl (af Z) ?_;exact Y js h D rfl (x.more<|aF 0x283201008100)<|au.ext Ext.rfl
theorem IF(c:aQ C ax)(Z:n<=70):Runs C A n hC M m M (m+5) (.ok []):=by intro D h P E x Y X;refine c.fn rfl (af Z) ?_;exact Y [] h D rfl (x.more<|aF 0x283201008100)<|au.ext Ext.rfl
theorem x6(c:aQ C ax)(Y:n<=70)(W:m<=800000){nm v}(X:M nName=some nm)(V:M hF=some v):Runs C A n iM M m (setM M nm<|some v) (m+5) (.ok []):=by intro D h P E x K F;refine c.fn rfl (af Y) ?_;refine x.own rfl (fun O O=>rfl) ?_;refine x.own rfl (fun O O=>rfl) ?_;refine fE c (am Y) x (af W) (aL) (fun B U T Z S R=>?_) fun e U T Z=>absurd (Z.symm.trans X) fo;cases Z.symm.trans X;refine S.own rfl (fun O O=>rfl) ?_;refine fE c (am Y) S (am W) (aL) (fun z y w Q J N=>?_) fun e U T Z=>absurd (Z.symm.trans V) fo;cases Q.symm.trans V;refine gD c (am Y) J (cW W) fun I H G L=>?_;exact K [] I H rfl (G.more<|aF 0xa0c80502604c0900928100)<|(R.trans N).trans L
theorem IG(c:aQ C ax)(X:n<=70)(R:m<=800000){nm}(Y:M nName=some nm):Runs C A n ns M m (if(M nm).isSome then setM M nm none else M) (m+5) (.ok []):=by
 intro D h P E x U G;refine c.fn rfl (af X) ?_;refine x.own rfl (fun O O=>rfl) ?_;refine x.own rfl (fun O O=>rfl) ?_;refine fE c (am X) x (af R) (aL) (fun F T S Z W V=>?_) fun e T S Z=>absurd (Z.symm.trans Y) fo;cases Z.symm.trans Y;refine sN c (am X) W ?_;rcases q:M nm with _|v
 .
  exact(q▸U) [] T S rfl (W.more<|aF 0xa0c805024028100) V
 .
  rw[q]at U;refine W.own rfl (fun O O=>rfl) ?_;refine W.own rfl (fun O O=>rfl) ?_;refine fE c (am X) W (am R) (aL) (fun B z y Q K N=>?_) fun e T S Z=>absurd (Z.symm.trans Y) fo;cases Q.symm.trans Y;refine xZ c (am X) K q fun J I H L=>?_;exact U [] J I rfl (H.more<|aF 0x2832014098120128100)<|(V.trans N).trans L
theorem IH(c:aQ C ax)(K:n<=88){e d q y O}{W:cb}{T}(V:h e=some (.bD 84 d O))(X:h d=some (.bK<|lv W.msg q [] false 0 y))(M:W.msg.length<=1000000)(J:T.length<=1000000)(k:∀R N,R d=some (.bK<|lv W.msg q N true 0 y)->el d h R->(∀b,R b=none->h b=none)->P .a5 R):C n U (.Y 181) [.Y e,.S T] P E h:=by
 have L:e≠d:=fun z=>by subst z;rw[V]at X;cases X
 refine c.fn rfl (af K) ?_;refine gy V X (v:=.ae 1) rfl rfl hq ?_;refine gy V X (v:=.S []) rfl rfl ja ?_;refine gy V X (v:=.S W.msg) rfl rfl ja ?_;refine lp V X rfl (a1) ?_;have g:∀{o},(h.set d o) e=some (.bD 84 d O):=(bl L).trans V;refine gy g (aD) (v:=.S W.msg) rfl rfl ja ?_;refine⟨by simp;exact af M,?_⟩;refine⟨by simp;exact((az 0x3d0900a111021e84805080810800000192228320128102) M J),?_⟩;refine lp g (aD) rfl (a1) ?_;have I:∀{o o'},((h.set d o).set d o') e=some (.bD 84 d O):=fun{o o'}=>Z set_set g;refine lp I (aD) rfl (a1) ?_;rw[set_set,set_set];refine k _ (W.msg++[10,32,32,32,32]++T) (aD) (fun b o Q z=>(bl Q).trans z) fun b Q=>?_;by_cases z:b=d;subst z;rw[ar.at]at Q;trivial;exact(bl z).symm.trans Q
end
def fW:aa:=[123]++fV++[125,32,123]++fF++[125]
theorem x7:cO fW=.ok [fV,fF]:=by rw[hX (p:=(fV,[32,123]++fF++[125]))<|by rfl];rw[hX (p:=(fF,[]))<|by rfl];exact Z (gT<|by rfl) rfl
theorem II:ci 0=[48]:=by rfl
noncomputable def eo:bk->aa->Except cb aa|[],Z=>.ok Z|(k,v)::r,Z=>match cZ Z k v with|.error e=>.error e|.ok sR=>eo r sR
theorem sS:∀(x:aa),eo [] x=Except.ok x:=by intros;rfl
theorem sT:∀(x k v:aa)(r:List (aa×aa)),eo ((k,v)::r) x=match cZ x k v with|Except.error e=>Except.error e|Except.ok sR=>eo r sR:=by intros;rfl
theorem cI.nt{A aY X h W}(x:cI A aY X h){e es}(U:h e=some (.bK es))(T:e∉cU A X)(y:el e h W):cI A aY X W:=by
 have g:∀{b p},b≠e->h b=some p->W b=some p:=fun Y q=>y _ _ Y q;have ne:∀{b p},h b=some p->p≠.bK es->b≠e:=fun Y Z q=>by subst q;exact Z (a2<|U.symm.trans Y).symm
 have V:∀{b},b∈cU A X->b≠e:=fun Y q=>T (q▸Y);exact
 {host:=g (ne x.host<|by simp) x.host
  dict:=x.dict.elim fun a b q=>⟨a,b,g (V<|.head _) q⟩
  e2:=x.e2.imp fun a q=>g (ne q<|by simp) q
  vars:=x.vars.imp fun a q=>g (ne q<|by simp) q
  eP:=x.eP.imp fun a q=>g (ne q<|by simp) q
  tup:=g (ne x.tup<|by simp) x.tup
  data:=g (ne x.data<|by simp) x.data
  subs:=x.subs.imp fun a q=>g (ne q<|by simp) q
  each:=fun p Z=>⟨g (ne (x.each p Z).1<|by simp) (x.each p Z).1,g (V<|.tail _<|.tail _<|List.mem_map_of_mem (f:=fi) Z) (x.each p Z).2⟩
  aC:=x.aC
  names:=x.names
  st:=x.st}
theorem aN.nt{A aY M m D h Z}(x:aN A aY M m D h){e es}(Y:Loc D h e (.bK es))(y:el e h Z):aN A aY M m D Z:=by obtain⟨X,W,V,rfl,rfl⟩:=x;exact⟨X,W.nt Y.2 Y.1 y,V,rfl,rfl⟩
theorem au.nt{D h X Y Z}(x:au D h X Y){e}(W:h e=none)(y:el e Y Z)(z:∀b,Z b=none->Y b=none):au D h X Z where
 keep:=fun a o V q=>y _ _ (bv W q) (x.keep a o V q)
 grow:=x.grow
 all:=fun a q=>x.all a<|z a q
section
variable{C:eW}{ax:Nat->Option (List V)}{n:Nat}{U:Option Nat}{P:a3 V}{E:a3 Nat}{h:ar}{A:fh}{aY:Int}{M:cr}{m:Nat}{D:aa}
theorem sU(c:aQ C ax)(V:n<=80){T}(k:∀a W,Ext h W->h a=none->W a=some (.ag [.S fV,.S fF])->P (.Y a) W):C n none (.Y 575) [.S fW,.S T] P E h:=by refine c.fn rfl (af V) ?_;refine s_split c (am V) (by exact aL) (fun a U l Z R Q X=>?_) (fun e U O Z y=>by rw[x7]at Z;trivial);rw[x7]at Z;obtain rfl:=Except.ok.inj Z;exact c.len_list X (by exact aL)<|k a U R Q X
theorem sV(c:aQ C ax)(K:n<=69)(x:aN A 0 M m D h)(hm:m<=700000){q k v sc wt w a8 R}(a2:Loc D h q (.ag [.S fV,.S fF]))(J:wt.length<=1000)(hr:Runs C A (n+2) sc (setM (setM M fV<|some k) fF<|some v) (m+2) w a8 R)(kv:∀t X T r,R=.ok r->aN A 0 w a8 T X->au D h T X->Loc T X t (.an [.ae 0,.S r])->h t=none->P (.Y t) X)(ke:∀e X T I,R=.error I->aN A 0 w a8 T X->au D h T X->jr T X e I->E e X):C n none (.Y 582) [.Y A.H,.Y q,.S k,.S v,.S sc,.S wt] P E h:=by
 refine c.fn rfl (af K) ?_;refine x.own rfl (fun O O=>rfl) ?_;refine bj a2.2 (v:=.S fV) rfl ?_;refine gD c (am K) x (af hm) fun h1 D1 x1 l=>?_;have a3:=l.loc a2;refine x1.own rfl (fun O O=>rfl) ?_;refine bj a3.2 (v:=.S fF) rfl ?_;refine gD c (am K) x1 (am hm) fun h2 D2 x2 a4=>?_;have Q:au D h D2 h2:=l.trans a4;refine x2.own rfl (fun O O=>rfl) ?_;refine x0 c (am K) hr x2 (fun r U N b u G=>?_) fun e U N I b u G a5=>?_;intro t F;have Z:Ext U (U.set t (.an [.ae 0,.S r])):=aw F;have W:=(Q.trans G);exact kv t _ N r b (u.ext Z) (W.trans<|au.ext Z) (u.new F)<|W.all _ F
 .have a:hE N h U e I:=a5.pre Q;have W:au D h N U:=Q.trans G;obtain⟨bq,eq,d,s,qq,y,gI,L,V,l3⟩:=a;refine⟨⟨d,s,L.2⟩,?_⟩;refine gy L.2 V.2 (v:=.ae 1) rfl rfl (by exact hq) ?_;intro t F;have Z:Ext U (U.set t (.an [.ae 3,.ae 4])):=aw F;refine ei (aD) rfl (by exact aL) ?_;refine⟨by exact((aF 0x1f40a2020420000006480e0ca8101) J),?_⟩;refine⟨by simp;exact af J,?_⟩;refine gy (Z _ _ L.2) (Z _ _ V.2) (v:=.ae 0) rfl rfl (by exact hq) ?_;refine c.ll (by exact succ_pos _) ?_;change run _ _ _ _ _ _ (.S (ci 0)::_) _ _;rw[II];refine⟨by simp;exact af J,?_⟩;refine⟨by simp;exact af J,?_⟩;refine IH c (am K) (Z _ _ L.2) (Z _ _ V.2) bq (by simp;exact af J) fun B a0 j p ab=>?_;have i:e≠d:=fun z=>by subst z;have:=L.2;rw[V.2]at this;cases this
  have g:B e=some (.bD 84 d s):=p _ _ i<|Z _ _ L.2;refine lp g j rfl (a1) ?_;have f:∀{o},(B.set d o) e=some (.bD 84 d s):=(bl i).trans g;refine G8 f ?_;have a6:aN A 0 w a8 N B:=(u.ext Z).nt ⟨V.1,Z _ _ V.2⟩ p;have a7:au D h N B:=(W.trans<|au.ext Z).nt gI p ab;have a9:∀{z:Nat}{o o':dM},z≠d->U z=some o->(B.set d o') z=some o:=fun hz ho=>(bl hz).trans<|p _ _ hz<|Z _ _ ho;intro _;have aa:qq≠d:=fun z=>by subst z;have:=l3.2;rw[V.2]at this;cases this
  exact ke e _ N I b (a6.Iq V.1 j) (a7.own gI) ⟨d,s,qq,y,a0,true,0,⟨L.1,f⟩,⟨V.1,aD⟩,⟨l3.1,a9 aa l3.2⟩⟩
def agree(xs:List aa)(M Z:cr):Prop:=∀x,x∉xs->Z x=M x
theorem agree.lJ{xs M}:agree xs M M:=fun O O=>rfl
theorem agree.trans{xs M Y Z}(x:agree xs M Y)(y:agree xs Y Z):agree xs M Z:=fun z X=>(y z X).trans<|x z X
theorem agree.set{xs M nm v}(h:nm∈xs):agree xs M (setM M nm v):=fun z Z=>by exact(if_neg fun q=>Z<|by rw[q];exact h)
def gf:List aa:=[fV,fF,iL]
theorem IJ(l):∀d:bk,2*(fA d l).length<=2*d.length+l.length:=by
 induction l using nb with
 |hz=>exact fun d=>Nat.le_refl _
 |zq1 x=>exact fun d=>le_add_right _ _
 |zq2 k v r ab=>exact fun d=>((bh 0x1024c211020202204d008138108130248246204d008138102) (ab<|put k v d)<|ly k v d)
theorem kr{t d}(U:a0 t=.ok d):2*d.length<=t.length:=
 (nc U).elim fun l e=>Z e.2<|bp (IJ l [])<|bp (Nat.le_of_eq<|Nat.zero_add _) (lA e.1).2
theorem x8{k v}:∀{pre:bk}{Y Z:aa},eo pre Y=.ok Z->eo (pre++[(k,v)]) Y=cZ Z k v:=by
 intro pre;induction pre with
 |nil=>intro Y Z h;obtain rfl:=Except.ok.inj h;simp only[nil_append,sS,sT];cases cZ Y k v<;>rfl
 |cons pp r ab=>
  obtain⟨a,b⟩:=pp;intro Y Z h;simp only[cons_append,sS,sT]at h⊢;rcases q:cZ Y a b with e|c
  .rw[q]at h;trivial
  .rw[q]at h;exact ab h
theorem IK{l}:∀{pre:bk}{Z:aa}{e:cb},eo pre Z=.error e->eo (pre++l) Z=.error e:=by
 intro pre;induction pre with
 |nil=>intro Z e h;trivial
 |cons pp r ab=>
  obtain⟨a,b⟩:=pp;intro Z e h;simp only[cons_append,sS,sT]at h⊢;rcases q:cZ Z a b with e|c
  .rw[q]at h;obtain rfl:=Except.error.inj h;rfl
  .rw[q]at h;exact ab h
theorem IL(c:aQ C ax)(s:n<=66)(x:aN A 0 M m D h){q w0 bq t N}(hq:Loc D h q (.ag [.S w0,.S bq,.S fW,.S t,.S nq]))(hm:m+10*t.length<=600000)(ae:M iL=some N)(ht:t.length<=10000)(hz:∀d pre post X,a0 t=.ok d->d=pre++post->eo pre N=.ok X->X.length<=100000)(kv:∀d X T Q R,a0 t=.ok d->eo d N=.ok X->aN A 0 R (m+10*t.length) Q T->au D h Q T->agree gf M R->R iL=some X->P (.S []) T)(ke:∀e T Q L R,(a0 t=.error L\/∃d,a0 t=.ok d/\eo d N=.error L)->aN A 0 R (m+10*t.length) Q T->au D h Q T->agree gf M R->jr Q T e L->E e T):C n none (.Y 589) [.Y A.H,.Y q] P E h:=by
 refine c.fn rfl (af s) ?_;refine c.len_list hq.2 (a1) ?_;refine bj hq.2 (v:=.S fW) rfl ?_;refine sU c (am s) fun b h1 o ao ah=>?_;refine bj (o _ _ hq.2) (v:=.S t) rfl ?_;refine dS c (am s) (af ht) (fun a I d ep U x2 ha a4=>?_) fun e I L a7 U y=>?_
 .skip;have F:Ext h I:=o.trans x2;have hd0:=cH U;have B:=kr U;have aC:=cG U;have la:Loc D I a (.av (br d) ep):=⟨x.fresh<|o.fresh ha,a4⟩;have lb:Loc D I b (.ag [.S fV,.S fF]):=⟨x.fresh ao,x2 _ _ ah⟩;refine gY a4 ?_;refine dI (fun ac J=>iU fun(pre l:bk)(X:aa)(R:cr)(Q:aa)(T:ar)(u v w:Option V)=>hb (ac=(br l).map (fun e=>V.S e.1)) (d=pre++l) (eo pre N=.ok X) (aN A 0 R (m+7*pre.length) Q T) (au D I Q T) (agree gf M R) (R iL=some X)<|J=⟨[some<|.Y A.H,some<|.Y q,some<|.Y b,some<|.Y a,u,v,w],T⟩) ?_ ?_ ⟨[],d,N,M,D,I,none,none,none,rfl,rfl,rfl,x.ext F,au.ext Ext.rfl,agree.lJ,ae,rfl⟩
  .rintro v0 ad Kb ab kb bm J ⟨pre,l,X,R,Q,T,u,v,w,e1,W,j,xs,st,a3,G,rfl⟩;cases l with
   |nil=>trivial
   |cons a5 l=>
    obtain⟨K,O⟩:=a5;cases e1;have a6:K.length<=100000/\O.length<=100000:=by have:=lB (p:=(K,O)) (d:=d) (by exact Z W cw);exact⟨((bh p4) ht hd0 this),((bh p5) ht hd0 this)⟩
    have i:pre.length+1<=d.length:=by exact Z W<|ik<|Nat.le_refl _
    have ai:aH K (br d)=some (.S O):=by rw[dJ,W,jq<|by exact aW W aC];rfl
    have a8:=st.loc la;have aj:=st.loc lb;have ak:=((au.ext F).trans st).loc hq;have al:=hz d pre _ X U W j;refine dA a8.2 (v:=.S O) ai ?_;refine bj ak.2 (v:=.S nq) rfl ?_;refine sV c (am s) xs (by exact((bh 0x840930b8200821027c18493e01422282300a04155cc05098e0d8050203) hm B i)) aj (by exact aL) (IC (t:=X) c (cW s) (by exact((bh 0x4204985c100410813e0c249f00a111411805020c3500286044c706c0250203) hm B i)) (k:=K) (v:=O) (by rfl) (by rfl) ?_ al a6.1 a6.2) (fun t' h3 D3 r f x3 z lt ap=>?_) fun e h3 D3 L f x3 z an=>?_;exact G
    .have a2:eo (pre++[(K,O)]) N=.ok r:=by exact(x8 j).trans f
     rw[f]at x3;refine eY lt.2 ?_;refine(ab _ ((z.loc a8).2) ⟨pre++[(K,O)],l,r,_,D3,h3,_,_,_,rfl,by rw[W];exact append_cons ..,a2,x3.more (by exact Z length_append<|az 0x102442e0d80541981111c1b00928100),st.trans z,?_,rfl,rfl⟩);exact a3.trans<|((agree.set<|by exact .head _).trans<|agree.set<|by exact .tail _<|.head _).trans<|agree.set<|by exact .tail _<|.tail _<|.head _
    .have a2:eo d N=.error L:=by rw[W,show pre++(K,O)::l=(pre++[(K,O)])++l by exact append_cons ..];exact IK (by exact(x8 j).trans f)
     exact ke e h3 D3 L _ (.inr ⟨d,U,a2⟩) ((f▸x3).more<|by exact((bh 0x20490540a0200409d0401141198541981121c1b30928102) B i)) (((au.ext F).trans st).trans z) (a3.trans<|(agree.set<|by exact .head _).trans<|agree.set<|by exact .tail _<|.head _) an
  .rintro J ⟨pre,l,X,R,Q,T,u,v,w,e1,W,j,xs,st,a3,G,rfl⟩;cases l with|cons a5 l=>trivial|nil=>rw[append_nil]at W;subst W;exact kv d X T Q R U j (xs.more<|by exact((aT 0x400813e0c0450464100e0d9050201) B)) ((au.ext F).trans st) a3 G
 .have a9:=x.ext o;exact ke e I D L M (.inl U) ((a9.ext y.ext).more<|by exact(az 0x4504601008100)) (au.ext<|o.trans y.ext) agree.lJ<|(y.toN a9 (by have:=eQ U;exact af this)).g
end
theorem cI.lK{A aY X h}(x:cI A aY X h){o es ep o'}(V:h o=some (.av es ep))(U:o∉cU A X)(S:o≠A.T)(R:o≠A.dn)(Q:o≠A.py):cI A aY X (h.set o o'):=by
 have g:∀{b p},b≠o->h b=some p->(h.set o o') b=some p:=fun Y q=>(bl Y).trans q;have ne:∀{b p},h b=some p->p≠.av es ep->b≠o:=fun Y Z q=>by subst q;exact Z (a2<|V.symm.trans Y).symm
 have W:∀{b},b∈cU A X->b≠o:=fun Y q=>U (q▸Y);exact
 {host:=g (ne x.host<|by simp) x.host
  dict:=x.dict.elim fun a b q=>⟨a,b,g (W<|.head _) q⟩
  e2:=x.e2.imp fun a q=>g S.symm q
  vars:=x.vars.imp fun a q=>g (W<|.tail _<|.head _) q
  eP:=x.eP.imp fun a q=>g R.symm q
  tup:=g (ne x.tup<|by simp) x.tup
  data:=g (ne x.data<|by simp) x.data
  subs:=x.subs.imp fun a q=>g Q.symm q
  each:=fun p Z=>⟨g (ne (x.each p Z).1<|by simp) (x.each p Z).1,g (W<|.tail _<|.tail _<|List.mem_map_of_mem (f:=fi) Z) (x.each p Z).2⟩
  aC:=x.aC
  names:=x.names
  st:=x.st}
theorem aN.lK{A X T S R V aY M m D h}(Q:aN A X T S R V)(x:aN A aY M m D h){o es ep o'}(W:V o=none)(U:Loc D h o (.av es ep)):aN A aY M m D (h.set o o'):=by refine Q.elim fun O Y=>?_;refine x.elim fun P Z=>?_;obtain rfl:=Z.3;obtain rfl:=Z.4;refine Y.1.e2.elim fun N t1=>?_;refine Y.1.eP.elim fun L bA=>?_;refine Y.1.subs.elim fun K t3=>?_;exact⟨P,Z.1.lK U.2 U.1 (bv W t1).symm (bv W bA).symm (bv W t3).symm,Z.2,rfl,rfl⟩
theorem aN.sW{A aY M m D h}(x:aN A aY M m D h){e xs o}(Z:h e=some (.ag xs)):aN A aY M m D (h.set e o):=by obtain⟨X,Y,W,rfl,rfl⟩:=x;exact⟨X,Y.np Z (by simp) (by simp) (Y.sL Z ⟨by simp,by simp⟩) (by simp),W,rfl,rfl⟩
theorem Loc.set{D h a b o o'}(l:Loc D h a o)(Z:a≠b):Loc D (h.set b o') a o:=⟨l.1,(bl Z).trans l.2⟩
section
variable{C:eW}{ax:Nat->Option (List V)}{n:Nat}{U:Option Nat}{P:a3 V}{E:a3 Nat}{h:ar}{A:fh}{aY:Int}{M:cr}{m:Nat}{D:aa}
theorem IM(c:aQ C ax)(I:n<=66)(x:aN A 0 M m D h){q w0 bq t}(hq:Loc D h q (.ag [.S w0,.S bq,.S fW,.S t,.S nr]))(hm:m+10*t.length<=600000)(i:t.length<=10000)(kv:∀d X W R,a0 t=.ok d->aN A 0 R (m+10*t.length) W X->au D h W X->agree gf M R->P (.S<|bg d) X)(ke:∀e X W f R,a0 t=.error f->aN A 0 R (m+10*t.length) W X->au D h W X->agree gf M R->jr W X e f->E e X):C n none (.Y 596) [.Y A.H,.Y q] P E h:=by
 refine c.fn rfl (af I) ?_;refine c.len_list hq.2 (a1) ?_;refine bj hq.2 (v:=.S fW) rfl ?_;refine sU c (am I) fun b h1 x1 hb al=>?_;refine bj (x1 _ _ hq.2) (v:=.S t) rfl ?_;refine dS c (am I) (af i) (fun a Q d ep U x2 ha a2=>?_) fun e Q f a7 U y=>?_
 .skip;have a6:Ext h Q:=x1.trans x2;have hd0:=cH U;have N:=kr U;have aC:=cG U;intro B o ho;have xo:Ext Q (Q.set o (.av (List.zip [] []) B)):=aw ho;have a8:=a6.trans xo;have a3:h o=none:=a6.fresh ho;have a9:=bv ho a2;have la:Loc D (Q.set o (.av (List.zip [] []) B)) a (.av (br d) ep):=⟨x.fresh<|x1.fresh ha,xo _ _ a2⟩;have s:Loc D (Q.set o (.av (List.zip [] []) B)) b (.ag [.S fV,.S fF]):=⟨x.fresh hb,xo _ _<|x2 _ _ al⟩;have lo:Loc D (Q.set o (.av (List.zip [] []) B)) o (.av (br []) B):=⟨x.fresh a3,aD⟩;have an:b≠o:=fun z=>by subst z;have:=s.2;rw[lo.2]at this;cases this
  refine gY (xo _ _ a2) ?_;refine dI (fun aj J=>iU fun(pre l:bk)(ep2:Nat)(R:cr)(W:aa)(X:ar)(u v w:Option V)=>kQ (aj=(br l).map (fun e=>V.S e.1)) (d=pre++l) (Loc W X o<|.av (br pre) ep2) (Loc W X a<|.av (br d) ep) (Loc W X b<|.ag [.S fV,.S fF]) (aN A 0 R (m+9*pre.length) W X) (au D h W X) (agree gf M R)<|J=⟨[some<|.Y A.H,some<|.Y q,some<|.Y b,some<|.Y a,some<|.Y o,u,v,w],X⟩) ?_ ?_ ⟨[],d,B,M,D,_,none,none,none,rfl,rfl,lo,la,s,x.ext a8,au.ext a8,agree.lJ,rfl⟩
  .rintro v0 ad Kb ab kb bm J ⟨pre,l,ep2,R,W,X,u,v,w,e1,T,lo,la,s,xs,st,ak,rfl⟩;cases l with
   |nil=>trivial
   |cons ac l=>
    obtain⟨L,k⟩:=ac;cases e1;have b1:L.length<=100000/\k.length<=100000:=by have:=lB (p:=(L,k)) (d:=d) (by exact Z T cw);exact⟨((bh p4) i hd0 this),((bh p5) i hd0 this)⟩
    have G:pre.length+1<=d.length:=by exact Z T<|ik<|Nat.le_refl _
    have ao:aH L (br d)=some (.S k):=by rw[dJ,T,jq<|by exact aW T aC];rfl
    have ap:L∉pre.map (·.1):=by intro aq;rw[T,map_append,nodup_append]at aC;exact aC.2.2 _ aq L (by exact .head _) rfl
    have as:=st.loc hq;refine dA la.2 (v:=.S k) ao ?_;refine bj as.2 (v:=.S nr) rfl ?_;refine sV c (am I) xs (by exact((bh tD) hm N G)) s (by exact aL) (ID (v:=k) c (cW I) (by exact((bh 0x21024c29050104204e420493e01422282300a04186a0050c0898908c0250203) hm N G))<|by rfl) (fun t' h3 D3 r hR j K lt b2=>?_) (fun e h3 D3 f hR j K b3=>by cases hR);cases hR;have ay:=K.loc lo;have cw:=K.loc la;have ae:=K.loc s;refine eY lt.2 ?_;refine j.own rfl (fun O O=>rfl) ?_;refine bj ae.2 (v:=.S fV) rfl ?_;refine fE c (am I) j (by exact((bh 0x21024c29050104204e420493e01422282300a041e848050d066044c484601250203) hm N G)) (by exact aL) (fun k' h4 D4 a4 x4 F=>?_) (fun e h4 D4 a4=>by exact absurd (a4.symm.trans (show _=some L from rfl))<|by exact fo);cases a4.symm.trans (show _=some L from rfl);have a5:=F.loc ay;have ah:=F.loc cw;have b0:=F.loc ae;refine eB a5.2 (by rw[fB];exact((aT 0x110248281000110270213880e202043d09000c1210203) i N G)) fun e=>?_;rw[fU,lE ap];refine(ab _ ((ah.set a9).2) ⟨pre++[(L,k)],l,e,_,D4,_,_,_,_,rfl,by rw[T];exact append_cons ..,⟨a5.1,aD⟩,ah.set a9,b0.set an,(aN.lK x x4 a3 a5).more (by exact Z l6<|az 0x102442908c0281341981111211804928100),((st.trans K).trans F).own a3,?_,rfl⟩);exact ak.trans<|(agree.set<|by exact .head _).trans<|agree.set<|by exact .tail _<|.head _
  .rintro J ⟨pre,l,ep2,R,W,X,u,v,w,e1,T,lo,la,s,xs,st,ak,rfl⟩;cases l with|cons ac l=>trivial|nil=>rw[append_nil]at T;subst T;refine g0 c (am I) lo.2 aC (show bH _<=_ by exact((az 0x181b110213880e203030f424005c888102) i hd0)) fun h3 j=>?_;exact kv d h3 W R U ((xs.ext j).more<|by exact((aT 0x100204e42008a08c82012119050201) N)) (st.trans<|au.ext j) ak
 .have ai:=x.ext x1;exact ke e Q D f M U ((ai.ext y.ext).more<|by exact(az 0x4504601008100)) (au.ext<|x1.trans y.ext) agree.lJ<|(y.toN ai (by have:=eQ U;exact af this)).g
theorem IN(c:aQ C ax)(N:n<=66)(x:aN A 0 M m D h){q w0 bq gI t}(hq:Loc D h q (.ag [.S w0,.S bq,.S t,.S gI,.S fW,.S js]))(hm:m+10*t.length<=600000)(B:t.length<=10000)(kv:∀d X W R,a0 t=.ok d->aN A 0 R (m+10*t.length) W X->au D h W X->agree gf M R->P (.S<|bg d) X)(ke:∀e X W s R,a0 t=.error s->aN A 0 R (m+10*t.length) W X->au D h W X->agree gf M R->jr W X e s->E e X):C n none (.Y 603) [.Y A.H,.Y q] P E h:=by
 refine c.fn rfl (af N) ?_;refine c.len_list hq.2 (a1) ?_;refine bj hq.2 (v:=.S fW) rfl ?_;refine sU c (am N) fun b h1 k hb aj=>?_;refine bj (k _ _ hq.2) (v:=.S t) rfl ?_;refine dS c (am N) (af B) (fun a Q d ep U x2 ha j=>?_) fun e Q s a7 U y=>?_
 .skip;have a4:Ext h Q:=k.trans x2;have hd0:=cH U;have i:=kr U;have aC:=cG U;intro K o ho;have xo:Ext Q (Q.set o (.av (List.zip [] []) K)):=aw ho;have a5:=a4.trans xo;have f:h o=none:=a4.fresh ho;have a6:=bv ho j;have la:Loc D (Q.set o (.av (List.zip [] []) K)) a (.av (br d) ep):=⟨x.fresh<|k.fresh ha,xo _ _ j⟩;have I:Loc D (Q.set o (.av (List.zip [] []) K)) b (.ag [.S fV,.S fF]):=⟨x.fresh hb,xo _ _<|x2 _ _ aj⟩;have lo:Loc D (Q.set o (.av (List.zip [] []) K)) o (.av (br []) K):=⟨x.fresh f,aD⟩;have ak:b≠o:=fun z=>by subst z;have:=I.2;rw[lo.2]at this;cases this
  refine gY (xo _ _ j) ?_;refine dI (fun ah J=>iU fun(pre l:bk)(ep2:Nat)(R:cr)(W:aa)(X:ar)(u v w:Option V)=>kQ (ah=(br l).map (fun e=>V.S e.1)) (d=pre++l) (Loc W X o<|.av (br pre) ep2) (Loc W X a<|.av (br d) ep) (Loc W X b<|.ag [.S fV,.S fF]) (aN A 0 R (m+9*pre.length) W X) (au D h W X) (agree gf M R)<|J=⟨[some<|.Y A.H,some<|.Y q,some<|.Y b,some<|.Y a,some<|.Y o,u,v,w],X⟩) ?_ ?_ ⟨[],d,K,M,D,_,none,none,none,rfl,rfl,lo,la,I,x.ext a5,au.ext a5,agree.lJ,rfl⟩
  .rintro v0 ad Kb ab kb bm J ⟨pre,l,ep2,R,W,X,u,v,w,e1,T,lo,la,I,xs,st,ai,rfl⟩;cases l with
   |nil=>trivial
   |cons a8 l=>
    obtain⟨G,F⟩:=a8;cases e1;have b0:G.length<=100000/\F.length<=100000:=by have:=lB (p:=(G,F)) (d:=d) (by exact Z T cw);exact⟨((bh p4) B hd0 this),((bh p5) B hd0 this)⟩
    have a9:pre.length+1<=d.length:=by exact Z T<|ik<|Nat.le_refl _
    have ac:aH G (br d)=some (.S F):=by rw[dJ,T,jq<|by exact aW T aC];rfl
    have al:G∉pre.map (·.1):=by intro an;rw[T,map_append,nodup_append]at aC;exact aC.2.2 _ an G (by exact .head _) rfl
    have ao:=st.loc hq;refine dA la.2 (v:=.S F) ac ?_;refine bj ao.2 (v:=.S js) rfl ?_;refine sV c (am N) xs (by exact((bh tD) hm i a9)) I (by exact aL) (IE c<|cW N) (fun t' h3 D3 r hR x3 O lt b1=>?_) (fun e h3 D3 s hR x3 O b2=>by cases hR);cases hR;have ap:=O.loc lo;have cw:=O.loc la;have aq:=O.loc I;refine eY lt.2 ?_;refine Hm c (am N) fun h4 x4=>?_;have L:au D3 h3 D3 h4:=au.ext x4;have a2:=L.loc ap;have a3:=L.loc cw;have as:=L.loc aq;have ay:=x3.ext x4;refine dA a3.2 (v:=.S F) ac ?_;refine eB a2.2 (by rw[fB];exact((aT 0x110248281000110270213880e202043d09000c1210203) B i a9)) fun e=>?_;rw[fU,lE al];refine(ab _ ((a3.set a6).2) ⟨pre++[(G,F)],l,e,_,D3,_,_,_,_,rfl,by rw[T];exact append_cons ..,⟨a2.1,aD⟩,a3.set a6,as.set ak,(aN.lK x ay f a2).more (by exact Z length_append<|az 0x40910a42300a8330222242300928100),((st.trans O).trans L).own f,?_,rfl⟩);exact ai.trans<|(agree.set<|by exact .head _).trans<|agree.set<|by exact .tail _<|.head _
  .rintro J ⟨pre,l,ep2,R,W,X,u,v,w,e1,T,lo,la,I,xs,st,ai,rfl⟩;cases l with|cons a8 l=>trivial|nil=>rw[append_nil]at T;subst T;refine g0 c (am N) lo.2 aC (show bH _<=_ by exact((az 0x181b110213880e203030f424005c888102) B hd0)) fun h3 x3=>?_;exact kv d h3 W R U ((xs.ext x3).more<|by exact((aT 0x100204e42008a08c82012119050201) i)) (st.trans<|au.ext x3) ai
 .have ae:=x.ext k;exact ke e Q D s M U ((ae.ext y.ext).more<|by exact(az 0x4504601008100)) (au.ext<|k.trans y.ext) agree.lJ<|(y.toN ae (by have:=eQ U;exact af this)).g
noncomputable def eR(M:cr):bk->List (aa×aa)->Bool->bk×Bool|d,[],Z=>(d,Z)|d,(k,nm)::r,Z=>match M nm with|some v=>eR M (put k v d) r true|none=>if(aH k d).isSome then eR M (del k d) r true else eR M d r Z
theorem pA:∀(M:cr)(x:bk)(Z:Bool),eR M x [] Z=(x,Z):=by intros;rfl
theorem nu:∀(M:cr)(x:bk)(Z:Bool)(k nm:aa)(r:List (aa×aa)),eR M x ((k,nm)::r) Z=match M nm with|some v=>eR M (put k v x) r true|none=>if(aH k x).isSome=true then eR M (del k x) r true else eR M x r Z:=by intros;rfl
def putBack(M:cr)(t:aa)(d:bk)(Z:List (aa×aa)):aa:=if(eR M d Z false).2 then bg (eR M d Z false).1 else t
theorem IO{aq}(k):∀d:List (aa×aq),(del k d).length<=d.length:=by
 intro d;induction d with
 |nil=>exact Nat.le_refl _
 |cons pp r ab=>obtain⟨a,b⟩:=pp;have:=ab;rw[hd];split<;>simp<;>exact this
set_option tactic.hygienic true in
theorem x9{M nm}(h:M nm=none):setM M nm none=M:=by funext k;unfold setM;split;rename_i q;exact Z q<|Z h rfl;rfl
theorem IP(c:aQ C ax)(k:n<=76)(x:aN A aY M m D h){pq ka na nm t d}{ac aI:List aa}(hp:Loc D h pq (.ag []))(ai:Loc D h ka (.ag<|ac.map .S))(aq:Loc D h na (.ag<|aI.map .S))(a1:ac.length=aI.length)(R:ac.length<=10000)(hm:m+3*ac.length<=700000)(as:nm.length<=800000)(ay:∀z∈aI,z.length<=800000)(hv:M nm=some t)(ht:t.length<=100000)(U:a0 t=.ok d)(hz:bH (eR M d (ac.zip aI) false).1<=8000000)(kv:∀Q K,aN A aY (setM M nm<|some<|putBack M t d<|ac.zip aI) (m+3*ac.length+5) K Q->au D h K Q->P .a5 Q):C n none (.Y 624) [.Y A.H,.S nm,.Y pq,.Y ka,.Y na] P E h:=by
 refine c.fn rfl (af k) ?_;refine sO c (am k) x (by exact((az 0xaae602844609805021e848050808101) hm)) as fun h1 g x1 o=>?_;rw[hv];have a3:=o.loc hp;have hd0:=cH U;have aC:=cG U;refine pn c (am k) (af ht) a3.2 (fun b a h2 T ep a4 x2 ha hb aj b0 a6=>?_) (fun e h1 er a7 a4 y=>by rw[U]at a4;trivial);cases U.symm.trans a4;have b1:au g h1 g h2:=au.ext x2;have a8:=o.trans b1;have l:h a=none:=o.all _ ha;have b6:h b=none:=o.all _ hb;have la:Loc g h2 a (.av (br d) ep):=⟨x1.fresh ha,b0⟩;have lb:Loc g h2 b (.ag [.Y a]):=⟨x1.fresh hb,a6⟩;refine c.len_list a6 (by exact succ_pos _) ?_;refine c.len_list (x2 _ _ a3.2) (by exact zero_le _) ?_;refine bj a6 (v:=.Y a) rfl ?_;refine c.len_list (x2 _ _ a3.2) (by exact zero_le _) ?_;have an:=a8.loc ai;refine c.len_list an.2 (by simp;exact af R) ?_;refine c.iC (by exact(aF n4)) (by exact Z (length_map ..)<|(aF 0x13880e202042000000000000000f4808171) R) fun r s=>?_;have xr:Ext h2 (h2.set r (.range 0 ((ac.map V.S).length:Nat))):=aw s;refine m6 (aD) ?_;have q:=(au.ext (D:=g) xr);have b2:gN 0 ((ac.map V.S).length:Nat)=ac.length:=by exact length_map ..
 rw[b2];obtain⟨G,pB⟩:∃G,G=eR M d (ac.zip aI) false:=⟨_,rfl⟩;rw[<-pB]at hz;have ak:(ac.zip aI).length=ac.length:=by rw[length_zip,a1];simp
 refine dI (fun ao J=>iU fun(i j:Nat)(T:bk)(ep:Nat)(f:Bool)(K:aa)(Q:ar)(u v:Option V)=>oh (ao=j0 (i:Int) j) (i+j=ac.length) (eR M T ((ac.zip aI).drop i) f=G) (T.length<=d.length+i) ((T.map (·.1)).Nodup) (Loc K Q a<|.av (br T) ep) (Loc K Q b<|.ag [.Y a]) (aN A aY M (m+1+i) K Q) (au D h K Q)<|J=⟨[some<|.Y A.H,some<|.S nm,some<|.Y pq,some<|.Y ka,some<|.Y na,some<|.S t,some<|.Y b,some<|.Y a,some<|.aP f,u,v],Q⟩) ?_ ?_ ⟨0,ac.length,d,ep,false,g,_,none,none,rfl,by exact bR (aF 0xa8100)<|aF 0x5008100,pB.symm,by exact(aF 0x201008100),aC,q.loc la,q.loc lb,(x1.ext x2).ext xr,a8.trans q,rfl⟩
 .rintro v0 ad Kb ab kb bm J ⟨i,j,T,ep,f,K,Q,u,v,e1,X,W,N,F,la,lb,xs,st,rfl⟩;cases j with
  |zero=>trivial
  |succ j=>
   cases e1;have a9:i<ac.length:=by exact((aT 0x210244200a0488008111) X)
   obtain⟨B,nv⟩:∃B,ac[i]?=some B:=⟨_,List.getElem?_eq_getElem a9⟩;obtain⟨nn,nw⟩:∃nn,aI[i]?=some nn:=⟨_,List.getElem?_eq_getElem<|by exact((bh 0x4093088281210020484108112) a1 X)⟩;have ah:(ac.zip aI).drop i=(B,nn)::(ac.zip aI).drop (i+1):=by rw[drop_eq_getElem_cons<|Nat.lt_of_lt_of_eq a9<|id<|Eq.symm ak];congr 1;rw[getElem_zip];rw[List.getElem?_eq_getElem a9]at nv;rw[List.getElem?_eq_getElem<|PyProof.Rows.place_lt nw]at nw;exact Z (a2 nv)<|Z (a2 nw) rfl
   have ap:nn.length<=800000:=ay nn<|mem_of_getElem? nw;have b3:=st.loc ai;have b4:=st.loc aq;rw[ah]at W;rw[nu]at W;have al:d.length<=600000:=by unfold bH at hd0;exact((aT lY) ht hd0)
   refine eA b4.2 (kl nw) cL (by exact((aT nU) R X)) ?_;refine sO c (am k) xs (by exact((bh 0x440930882812aae602844609805021e848050908120128102) hm X)) ap fun h3 D3 I L=>?_;have cw:=L.loc la;have ae:=L.loc lb;have p:=L.loc b3;cases hM:M nn with
   |some w=>rw[hM]at W;refine eA p.2 (kl nv) cL (by exact((aT nU) R X)) ?_;refine eB (v:=.S w) cw.2 (by rw[fB];exact((bV tE) R N X al)) fun e=>?_;rw[fU];refine(ab _ trivial ⟨i+1,j,put B w T,e,true,D3,_,_,_,by exact Z (show((i+1:Nat):Int)=(i:Int)+1 by exact Int.le_antisymm (aF 0x1024028120158160)<|aF 0x102402b024028160) rfl,by exact bR ((aT 0x210244200a0488088120128101) X)<|(aT 0x210244200a04c4409009108101) X,W,?_,ek F,⟨cw.1,aD⟩,ae.set aj.symm,(aN.lK x I l cw).more (by exact(az lZ)),(st.trans L).own l,rfl⟩);have:=ly B w T;exact((bh 0x204804620408084020420490421188102) N this)
   |none=>
    rw[hM]at W;refine eA p.2 (kl nv) cL (by exact((aT nU) R X)) ?_;refine gX cw.2 ?_;rw[dJ];cases hl:aH B T with
    |none=>rw[hl,if_neg<|by exact of_decide_eq_true rfl]at W;exact(ab _ trivial ⟨i+1,j,T,ep,f,D3,h3,_,_,by exact Z (show((i+1:Nat):Int)=(i:Int)+1 by exact Int.le_antisymm (aF 0x1024028120158160)<|aF 0x102402b024028160) rfl,by exact bR ((aT 0x210244200a0488088120128101) X)<|(aT 0x210244200a04c4409009108101) X,W,by exact((aT 0x8084020420490421008101) N),F,cw,ae,I.more (by exact(az lZ)),st.trans L,rfl⟩)
    |some w=>rw[hl,if_pos<|by simp]at W;refine lq cw.2 ?_;refine eA p.2 (kl nv) cL (by exact((aT nU) R X)) ?_;refine G6 cw.2 (by rw[fB];exact((bV tE) R N X al)) (u:=.S w) (by rw[dJ,hl];rfl) fun e=>?_;rw[xz];refine(ab _ trivial ⟨i+1,j,del B T,e,true,D3,_,_,_,by exact Z (show((i+1:Nat):Int)=(i:Int)+1 by exact Int.le_antisymm (aF 0x1024028120158160)<|aF 0x102402b024028160) rfl,by exact bR ((aT 0x210244200a0488088120128101) X)<|(aT 0x210244200a04c4409009108101) X,W,?_,nf F,⟨cw.1,aD⟩,ae.set aj.symm,(aN.lK x I l cw).more (by exact(az lZ)),(st.trans L).own l,rfl⟩);have:=IO B T;exact((bh 0x620408084020420490421188102) N this)
 .rintro J ⟨i,j,T,ep,f,K,Q,u,v,e1,X,W,N,F,la,lb,xs,st,rfl⟩;cases j with
  |succ j=>trivial
  |zero=>
   rw[drop_of_length_le<|by exact((aT 0x80048281310020488008102) ak X)]at W;have fin:∀{h3:ar}{r:aa},Ext Q h3->r=putBack M t d (ac.zip aI)->C (n+1) none (.Y 885) [.Y A.H,.S nm,.S r] (fun O h4=>P .a5 h4) E h3:=by intro h3 r I s;refine gD c (am k) (xs.ext I) (by exact((aT 0x800482812aae602844609805021e848050908120128102) hm X)) fun h4 D4 x4 b5=>?_;exact kv h4 D4 ((s▸x4).more<|by exact((aT 0x200100a04a8322304c825024040920928101) X))<|(st.trans<|au.ext I).trans b5
   cases f with
   |true=>
    have s:bg T=putBack M t d (ac.zip aI):=by unfold putBack;exact aW pB<|aW W<|Z (if_pos rfl) rfl
    refine sz c (am k) lb.2 la.2 F (by rw[<-W]at hz;exact hz) fun h3 I=>?_;refine(xs.ext I).own rfl (fun O O=>rfl) ?_;exact fin I s
   |false=>
    have s:t=putBack M t d (ac.zip aI):=by unfold putBack;exact aW pB<|aW W<|Z (if_neg<|by exact aU) rfl
    refine xs.own rfl (fun O O=>rfl) ?_;exact fin Ext.rfl s
theorem ya(c:aQ C ax)(W:n<=66)(x:aN A 0 M m D h){R Q N v L nm t r d}{ac aI:List aa}{X a8}(u:Runs C A (n+2) L M m X a8 (.ok r))(s:Loc D h R (.ag []))(K:Loc D h Q (.ag<|ac.map .S))(J:Loc D h N (.ag<|aI.map .S))(V:ac.length=aI.length)(I:ac.length<=10000)(q:a8+3*ac.length<=700000)(G:nm.length<=800000)(F:∀z∈aI,z.length<=800000)(p:X nm=some t)(o:t.length<=100000)(U:a0 t=.ok d)(l:bH (eR X d (ac.zip aI) false).1<=8000000)(k:∀T B,aN A 0 (setM X nm<|some<|putBack X t d<|ac.zip aI) (a8+3*ac.length+5) B T->au D h B T->P (.S r) T):C n none (.Y 631) [.Y A.H,.S v,.S L,.S nm,.Y R,.Y Q,.Y N] P E h:=by refine c.fn rfl (af W) ?_;refine x.own rfl (fun O O=>rfl) ?_;refine x0 c (am W) u x (fun r' h1 D1 y j Z=>?_) (fun e h3 D3 er y x3 b a=>by trivial);obtain rfl:=Except.ok.inj y;refine IP c (am W) j (Z.loc s) (Z.loc K) (Z.loc J) V I q G F p o U l fun i g f w=>?_;exact k i g f<|Z.trans w
def writeAll(M:cr)(d:bk):cr:=d.foldl (fun M p=>setM M p.1<|some p.2) M
theorem IQ(M)(d)(k v):writeAll M (d++[(k,v)])=setM (writeAll M d) k (some v):=by unfold writeAll;refine Z foldl_append ?_;rfl
theorem IR(c:aQ C ax)(V:n<=66)(x:aN A 0 M m D h){q z bq nm w t Q}(T:Loc D h q (.ag [.S z,.S bq,.S nm,.S w]))(u:m<=600000)(N:nm.length<=800000)(L:M nm=some t)(s:t.length<=100000)(U:a0 t=.error Q)(r:∀e X R,aN A 0 M (m+1) R X->au D h R X->jr R X e Q->E e X):C n none (.Y 645) [.Y A.H,.Y q] P E h:=by refine c.fn rfl (af V) ?_;refine c.len_list T.2 (a1) ?_;refine ej (t:=[]) T.2 rfl (a1) rfl rfl ?_;intro p o;have W:Ext h (h.set p (.ag [])):=aw o;refine(x.ext W).own rfl (fun O O=>rfl) ?_;refine bj (W _ _ T.2) (v:=.S nm) rfl ?_;refine fE c (am V) (x.ext W) (af u) N (fun i l K J I G=>?_) fun e l K F=>absurd (F.symm.trans L) fo;cases J.symm.trans L;refine dS c (am V) (af s) (fun a B d ep Z f b k=>by replace Z:=U▸Z;trivial) fun e B j a7 Z y=>?_;cases U.symm.trans Z;exact r e B K (I.ext y.ext) (((au.ext W).trans G).trans<|au.ext y.ext)<|(y.toN I (by have:=eQ U;exact af this)).g
theorem yb(c:aQ C ax)(F:n<=60)(x:aN A 0 M m D h){q w0 bq nm sc t r d B a8}(hq:Loc D h q (.ag [.S w0,.S bq,.S nm,.S sc]))(w:m+10*t.length+100<=600000)(a2:a8<=m+2*t.length+20)(a3:nm.length<=800000)(hv:M nm=some t)(ht:t.length<=10000)(U:a0 t=.ok d)(hr:Runs C A (n+3) sc (writeAll M d) (m+1+d.length) B a8 (.ok r))(aj:B nm=some t)(hz:bH (eR B d ((d.map (·.1)).zip (d.map (·.1))) false).1<=8000000)(kv:∀X W,aN A 0 (setM B nm (some (putBack B t d ((d.map (·.1)).zip (d.map (·.1)))))) (m+10*t.length+100) W X->au D h W X->P (.S r) X):C n none (.Y 645) [.Y A.H,.Y q] P E h:=by
 refine c.fn rfl (af F) ?_;refine c.len_list hq.2 (a1) ?_;refine ej (t:=[]) hq.2 rfl (a1) rfl rfl ?_;intro p hp;have xp:Ext h (h.set p (.ag [])):=aw hp;have s:Loc D (h.set p (.ag [])) p (.ag []):=x.new hp;refine(x.ext xp).own rfl (fun O O=>rfl) ?_;refine bj (xp _ _ hq.2) (v:=.S nm) rfl ?_;refine fE c (am F) (x.ext xp) ((az 0x249f00a1c81c88a08c025021e848050808101) w) a3 (fun t' h1 N ak x1 a4=>?_) fun e h1 N al=>absurd (al.symm.trans hv) fo;cases ak.symm.trans hv;have ae:au D h N h1:=(au.ext xp).trans a4;have k:=a4.loc s;refine dS c (am F) (af ht) (fun a L d' ep K I ha j=>?_) (fun e L ay a7 K y=>by replace K:=U▸K;trivial);cases U.symm.trans K;have hd0:=cH U;have Q:=kr U;have aC:=cG U;have i:au D h N L:=ae.trans<|au.ext I;have g:Loc N L a (.av (br d) ep):=⟨x1.fresh ha,j⟩;refine xg (I _ _ k.2) (zero_le _) ?_;intro o f;have b:Ext L (L.set o (.ag [])):=aw f;have an:h o=none:=i.all _ f;have a5:=bv f j;have ao:p≠o:=bv f<|I _ _ k.2;have ah:au D h N (L.set o (.ag [])):=i.trans<|au.ext b;have lo:Loc N (L.set o (.ag [])) o (.ag ([].map V.S)):=(x1.ext I).new f;refine gY (b _ _ j) ?_;refine dI (fun ai J=>gJ fun(pre l:bk)(W:aa)(X:ar)(u:Option V)=>hb (ai=(br l).map (fun e=>V.S e.1)) (d=pre++l) (Loc W X o (.ag ((pre.map (·.1)).map .S))) (Loc W X a<|.av (br d) ep) (Loc W X p<|.ag []) (aN A 0 (writeAll M pre) (m+1+pre.length) W X) (au D h W X)<|J=⟨[some<|.Y A.H,some<|.Y q,some<|.Y p,some<|.S t,some<|.Y a,some<|.Y o,u],X⟩) ?_ ?_ ⟨[],d,N,_,none,rfl,rfl,lo,(au.ext b).loc g,(au.ext<|I.trans b).loc k,(x1.ext I).ext b,ah,rfl⟩
 .rintro v0 ad Kb ab kb bm J ⟨pre,l,W,X,u,e1,T,lo,g,s,xs,st,rfl⟩;cases l with
  |nil=>trivial
  |cons a6 l=>
   obtain⟨G,vv⟩:=a6;cases e1;have a9:pre.length+1<=d.length:=by refine Z T ?_;exact ik<|Nat.le_refl _
   have ap:aH G (br d)=some (.S vv):=by(rw[dJ];refine Z T<|Z (jq<|by rw[<-T];exact aC) ?_);rfl
   refine eL lo.2 ?_;refine eM lo.2 (qu<|(bh 0x108126150280821027410249f00a1c81c88a08c025021e848006098a0503) w Q a9) ?_;have ac:aN A 0 (writeAll M pre) (m+1+pre.length) W (X.set o (.ag ((pre.map (·.1)).map V.S++[.S G]))):=xs.sW lo.2;refine ac.own rfl (fun O O=>rfl) ?_;refine dA (g.set a5).2 (v:=.S vv) ap ?_;refine gD c (am F) ac ((bh 0x10812614080410813810927c02872072228230094083d0900a1310240250203) w Q a9) fun h3 D3 x3 R=>?_;have aq:=R.loc (show Loc W (X.set o (.ag ((pre.map (·.1)).map V.S++[.S G]))) o _ from⟨lo.1,aD⟩);have cw:=R.loc (g.set (o':=.ag ((pre.map (·.1)).map V.S++[.S G])) a5);have as:=R.loc (s.set (o':=.ag ((pre.map (·.1)).map V.S++[.S G])) ao);refine(ab _ cw.2 ⟨pre++[(G,vv)],l,D3,h3,_,rfl,by refine Z T ?_;exact append_cons ..,?_,cw,as,?_,(st.own an).trans R,rfl⟩);refine Z map_append<|Z map_append ?_;exact aq;rw[IQ];exact x3.more<|Z l6<|az lZ
 .rintro J ⟨pre,l,W,X,u,e1,T,lo,g,s,xs,st,rfl⟩;cases l with|cons a6 l=>trivial|nil=>rw[append_nil]at T;subst T;have lq:=st.loc hq;refine bj lq.2 (v:=.S sc) rfl ?_;refine bj lq.2 (v:=.S nm) rfl ?_;refine ya c (am F) xs hr s lo lo rfl (by rw[length_map];exact((az 0x4409c084e2038808109c4071110202) ht Q)) (by rw[length_map];exact((bh 0x106204f04140a4440980488408249f00a1c81c88a08c025020aae60284c6099050203) w a2 Q)) a3 (fun z hz=>?_) aj (af ht) U hz fun h3 D3 x3 R=>?_;have t1:=su hz;have bA:=pv d;exact((fK 0x105101b41026a830406282008c0d90a0c249f00a1c81c88a08c025820c3500284c50404) w hd0 t1 bA);exact kv h3 D3 (x3.more<|by rw[length_map];exact((bh 0x1031027820a0524204c42402041903921411884a8326304c0250202) a2 Q))<|st.trans R
theorem yc(c:aQ C ax)(hn:n<=60)(x:aN A 0 M m D h){q w0 bq nm l G k F i t r d M' a8}(g:Loc D h q (.ag [.S w0,.S bq,.S nm,.S l,.S G,.S k,.S F,.S i]))(hm:m<=600000)(ak:a8<=m+20)(al:nm.length<=800000)(bo:G.length<=800000)(bp:F.length<=800000)(hv:M nm=some t)(ht:t.length<=10000)(U:a0 t=.ok d)(hr:Runs C A (n+3) i (setM (setM M G<|aH l d) F<|aH k d) (m+3) M' a8 (.ok r))(b3:M' nm=some t)(hz:bH (eR M' d [(l,G),(k,F)] false).1<=8000000)(kv:∀W T,aN A 0 (setM M' nm<|some<|putBack M' t d [(l,G),(k,F)]) (m+100) T W->au D h T W->P (.S r) W):C n none (.Y 638) [.Y A.H,.Y q] P E h:=by
 refine c.fn rfl (af hn) ?_;refine c.len_list g.2 (a1) ?_;refine c.len_list g.2 (a1) ?_;refine⟨aU,?_⟩;refine a9 (fun O=>?_) (fun h1=>absurd h1<|by simp only[length_cons,length_nil];exact aU);refine x.own rfl (fun O O=>rfl) ?_;refine bj g.2 (v:=.S nm) rfl ?_;refine fE c (am hn) x (af hm) al (fun t' h1 B b4 x1 b5=>?_) fun e h1 B b6=>absurd (b6.symm.trans hv) fo;cases b4.symm.trans hv;refine dS c (am hn) (af ht) (fun a L d' ep a5 x2 bl an=>?_) (fun e L bs a7 a5 y=>by rw[U]at a5;trivial);cases U.symm.trans a5;have a2:au D h B L:=b5.trans<|au.ext x2;have la:Loc B L a (.av (br d) ep):=⟨x1.fresh bl,an⟩;intro o ho;have xo:Ext L (L.set o (.ag [])):=aw ho;have ao:h o=none:=a2.all _ ho;have b7:=bv ho an;have lo:Loc B (L.set o (.ag [])) o (.ag []):=(x1.ext x2).new ho;have l6:=(au.ext (D:=B) xo).loc la;intro w hw;have xw:Ext (L.set o (.ag [])) ((L.set o (.ag [])).set w (.ag [])):=aw hw;have ap:h w=none:=(a2.trans<|au.ext xo).all _ hw;have b8:=bv hw l6.2;have aq:=bv hw lo.2;have lw:Loc B ((L.set o (.ag [])).set w (.ag [])) w (.ag []):=((x1.ext x2).ext xo).new hw;have a6:=(au.ext (D:=B) xw).loc lo;have ik:=(au.ext (D:=B) xw).loc l6;have ac:au D h B ((L.set o (.ag [])).set w (.ag [])):=a2.trans<|au.ext<|xo.trans xw;have b9:aN A 0 M (m+1) B ((L.set o (.ag [])).set w (.ag [])):=(x1.ext x2).ext<|xo.trans xw;have ba:=ac.loc g;refine c.len_list ba.2 (a1) ?_;refine c.eF (aU) (aL) (Int.NonNeg.mk _) (bQ) (Int.NonNeg.mk _) (by simp) fun rr bb=>?_;obtain⟨pos,hpos0⟩:∃pos:List V,pos=[.ae 3,.ae 5]:=⟨_,rfl⟩;have bc:fa 2 3 (fs 3 (((([V.S w0,.S bq,.S nm,.S l,.S G,.S k,.S F,.S i]:List V).length:Nat):Int)-1) 2)=pos:=by rw[hpos0];kernel_rfl
 refine m7 (aD) ?_;rw[bc];have xr:∀{o'},Ext ((L.set o (.ag [])).set w (.ag [])) (((L.set o (.ag [])).set w (.ag [])).set rr o'):=aw bb;generalize ah:[(l,G),(k,F)]=ps at*;have b1:∀(X:List (aa×aa))(R Q:aa)(N:List (aa×aa)),ps=X++(R,Q)::N->([V.S w0,.S bq,.S nm,.S l,.S G,.S k,.S F,.S i]:List V)[3+2*X.length]?=some (.S R)/\([V.S w0,.S bq,.S nm,.S l,.S G,.S k,.S F,.S i]:List V)[3+2*X.length+1]?=some (.S Q)/\X.length<=1:=by
  intro X R Q N h;rw[<-ah]at h
  match X,h with
  |[],h=>cases h;exact⟨rfl,rfl,zero_le _⟩
  |[a],h=>cases h;exact⟨rfl,rfl,succ_pos _⟩
  |a::b::r,h=>have:=bn List.length h;simp at this
 refine dI (fun b2 J=>ha fun(X N:List (aa×aa))(T:aa)(W:ar)(u v:Option V)=>hb (ps=X++N) (b2=fa 2 ((3+2*X.length:Nat):Int) N.length) (Loc T W o (.ag ((X.map (·.1)).map .S))) (Loc T W w (.ag ((X.map (·.2)).map .S))) (Loc T W a<|.av (br d) ep) (aN A 0 (X.foldl (fun M p=>setM M p.2<|aH p.1 d) M) (m+1+X.length) T W) (au D h T W)<|J=⟨[some<|.Y A.H,some<|.Y q,some<|.Y a,some<|.Y o,some<|.Y w,u,v],W⟩) ?_ ?_ ⟨[],ps,B,_,none,none,rfl,by rw[<-ah,hpos0];rfl,(au.ext xr).loc a6,(au.ext xr).loc lw,(au.ext xr).loc ik,b9.ext xr,ac.trans<|au.ext xr,rfl⟩
 .rintro v0 ad Kb ab kb bm J ⟨X,N,T,W,u,v,f,e1,lo,lw,la,xs,st,rfl⟩;cases N with
  |nil=>trivial
  |cons as N=>
   obtain⟨R,Q⟩:=as;cases e1;obtain⟨g1,g2,g3⟩:=b1 X R Q N f;have bd:c9 ((3+2*X.length:Nat):Int) ([V.S w0,.S bq,.S nm,.S l,.S G,.S k,.S F,.S i]:List V)=some (.S R):=g1;have a3:c9 (((3+2*X.length:Nat):Int)+1) ([V.S w0,.S bq,.S nm,.S l,.S G,.S k,.S F,.S i]:List V)=some (.S Q):=g2;have lq:=st.loc g;have be:q≠o:=bv ao g.2;have bf:q≠w:=bv ap g.2;refine eA lq.2 bd cL ((aF 0x1024040820000000000000003f20204f04558171) g3) ?_;refine eL lo.2 ?_;refine eM lo.2 (qu<|af g3) ?_;have bg:=xs.sW (o:=.ag ((X.map (·.1)).map V.S++[.S R])) lo.2;have a4:=lw.set (o':=.ag ((X.map (·.1)).map V.S++[.S R])) aq.symm;have ik:=la.set (o':=.ag ((X.map (·.1)).map V.S++[.S R])) b7;have ay:=lq.set (o':=.ag ((X.map (·.1)).map V.S++[.S R])) be;have a6:Loc T (W.set o (.ag ((X.map (·.1)).map V.S++[.S R]))) o _:=⟨lo.1,aD⟩;have bh:=st.own (o:=.ag ((X.map (·.1)).map V.S++[.S R])) ao;refine eL a4.2 ?_;refine eA ay.2 a3 (aF n1) ((aF nV) g3) ?_;refine eM a4.2 (qu<|af g3) ?_;have s:=bg.sW (o:=.ag ((X.map (·.2)).map V.S++[.S Q])) a4.2;have bi:=a6.set (o':=.ag ((X.map (·.2)).map V.S++[.S Q])) aq;have cw:=ik.set (o':=.ag ((X.map (·.2)).map V.S++[.S Q])) b8;have ai:=ay.set (o':=.ag ((X.map (·.2)).map V.S++[.S Q])) bf;have bk:Loc T ((W.set o (.ag ((X.map (·.1)).map V.S++[.S R]))).set w (.ag ((X.map (·.2)).map V.S++[.S Q]))) w _:=⟨a4.1,aD⟩;have aj:=bh.own (o:=.ag ((X.map (·.2)).map V.S++[.S Q])) ap;refine gX cw.2 ?_;rw[dJ];have K:∀{D4:aa}{h4:ar}{u v:Option V},aN A 0 (setM (X.foldl (fun M p=>setM M p.2 (aH p.1 d)) M) Q (aH R d)) (m+1+X.length+1) D4 h4->au T ((W.set o (.ag ((X.map (·.1)).map V.S++[.S R]))).set w (.ag ((X.map (·.2)).map V.S++[.S Q]))) D4 h4->ha fun(j b0:List (aa×aa))(T:aa)(W:ar)(u' v':Option V)=>hb (ps=j++b0) (fa 2 (((3+2*X.length:Nat):Int)+2) N.length=fa 2 ((3+2*j.length:Nat):Int) b0.length) (Loc T W o (.ag ((j.map (·.1)).map .S))) (Loc T W w (.ag ((j.map (·.2)).map .S))) (Loc T W a (.av (br d) ep)) (aN A 0 (j.foldl (fun M p=>setM M p.2 (aH p.1 d)) M) (m+1+j.length) T W) (au D h T W) ((⟨[some (.Y A.H),some (.Y q),some (.Y a),some (.Y o),some (.Y w),u,v],h4⟩:St)=⟨[some (.Y A.H),some (.Y q),some (.Y a),some (.Y o),some (.Y w),u',v'],W⟩):=by
    intro D4 h4 u v x4 I;refine⟨X++[(R,Q)],N,D4,h4,u,v,by rw[f];exact append_cons ..,Z (show(((3+2*X.length:Nat):Int)+2)=((3+2*(X++[(R,Q)]).length:Nat):Int) by exact Z length_append<|Int.le_antisymm (aF 0x102402813c1150220204f04528160)<|aF 0x10220204f045281201409e08a8160) rfl,?_,?_,I.loc cw,?_,aj.trans I,rfl⟩
    .have:=I.loc bi;simpa using this
    .have:=I.loc bk;simpa using this
    .refine Z foldl_append ?_;exact x4.more<|Z length_append<|az lZ
   cases hl:aH R d with
   |some vv=>rw[hl]at K;refine s.own rfl (fun O O=>rfl) ?_;refine eA ai.2 a3 (aF n1) ((aF nV) g3) ?_;refine dA cw.2 (v:=.S vv) (by(rw[dJ];refine Z hl ?_);rfl) ?_;refine gD c (am hn) s ((az 0x8122204249f00a101021e848050888120128102) hm g3) fun h4 D4 x4 I=>?_;exact(ab _ trivial<|K x4 I)
   |none=>
    rw[hl]at K;refine s.own rfl (fun O O=>rfl) ?_;refine eA ai.2 a3 (aF n1) ((aF nV) g3) ?_;refine sN c (am hn) s ?_;cases hM:(X.foldl (fun M p=>setM M p.2<|aH p.1 d) M) Q with
    |none=>rw[x9 hM]at K;exact(ab _ trivial<|K (s.more<|az 0x81222048049088120128100)<|au.ext Ext.rfl)
    |some z=>refine s.own rfl (fun O O=>rfl) ?_;refine eA ai.2 a3 (aF n1) ((aF nV) g3) ?_;refine xZ c (am hn) s hM fun h4 D4 x4 I=>?_;exact(ab _ trivial<|K (x4.more<|az 0x81222048049088120128100) I)
 .rintro J ⟨X,N,T,W,u,v,f,e1,lo,lw,la,xs,st,rfl⟩;cases N with
  |cons as N=>trivial
  |nil=>
   rw[append_nil]at f;subst f;subst ah;have lq:=st.loc g;refine bj lq.2 (v:=.S i) rfl ?_;refine bj lq.2 (v:=.S nm) rfl ?_;intro p hp;have xp:Ext W (W.set p (.ag [])):=aw hp;refine ya c (am hn) (xs.ext xp) hr (xs.new hp) ((au.ext xp).loc lo) ((au.ext xp).loc lw) rfl (a1) (Nat.add_le_add_right ((az 0x28148042204249f00a10102155cb450888102) hm ak) _) al (fun z hz=>?_) b3 (af ht) U hz fun h3 D3 x3 aj=>?_
   .simp at hz;rcases hz with rfl|rfl<;>assumption
   .exact kv h3 D3 (x3.more<|by simp;exact((az 0x281488402042c87221008101) ak))<|(st.trans<|au.ext xp).trans aj
theorem IS(c:aQ C ax)(O:n<=64)(x:aN A 0 M m D h){q z bq t}(N:Loc D h q (.ag [.S z,.S bq,.S t,.S iI,.S fW,.S js]))(y:m+10*t.length<=600000)(w:t.length<=10000)(u:∀d Z X W,a0 t=.ok d->aN A 0 W (m+10*t.length) X Z->au D h X Z->agree gf M W->P (.S<|bg d) Z)(s:∀e Z X R W,a0 t=.error R->aN A 0 W (m+10*t.length) X Z->au D h X Z->agree gf M W->jr X Z e R->E e Z):C n none (.Y 617) [.Y A.H,.Y q] P E h:=by refine c.fn rfl (af O) ?_;refine c.len_list N.2 (a1) ?_;refine bj N.2 (v:=.S iI) rfl ?_;intro p r;have o:Ext h (h.set p (.an [.S h6,.S iI,.S dU])):=aw r;refine xR c (am O) (.inr<|.inl rfl) (aD) fun F Q=>?_;have Q:Ext h F:=o.trans Q;have V:au D h D F:=au.ext Q;refine IN c (am O) (x.ext Q) (V.loc N) y w (fun d L K J U I T G=>u d L K J U I (V.trans T) G) fun e L K R J U I T G B=>s e L K R J U I (V.trans T) G B
end
abbrev Rs:=Except cb aa
noncomputable def h8:Rs->D|.ok r=>.an [.ae 0,.S r]|.error nx=>.an [.ae 1,.S nx.msg,.an<|nx.d5.map .S]
def dC(D:aa)(h:ar)(t:Nat):Rs->Prop
 |.ok r=>Loc D h t<|.an [.ae 0,.S r]
 |.error nx=>∃q,Loc D h t (.an [.ae 1,.S nx.msg,.Y q])/\Loc D h q (.an<|nx.d5.map .S)
theorem dC.cv{D h Y X t}(s:au D h Y X):∀{R:Rs},dC D h t R->dC Y X t R
 |.ok _,x=>s.loc x
 |.error _,W=>W.elim fun q Z=>⟨q,s.loc Z.1,s.loc Z.2⟩
theorem IT(n)(h)(l:List aa):gn ((l.map V.S).map<|dat n h)=some (l.map D.S):=by
 induction l with
 |nil=>rfl
 |cons a r ab=>
  have e:dat n h (.S a)=some (.S a):=by cases n<;>rfl
  rw[map_cons,map_cons,e,Ac,ab];rfl
theorem sX{n h a xs}(e:h a=some (.an xs)):dat (n+1) h (.Y a)=(gn<|xs.map<|dat n h).map .an:=by show(match h a with|some (.an xs)=>(gn<|xs.map<|dat n h).map D.an|_=>none)=_;rw[e]
theorem dC.dat{D h t}{n R}(x:dC D h t R):dat (n+2) h (.Y t)=some (h8 R):=by
 cases R with
 |ok r=>exact(sX x.2).trans rfl
 |error Z=>refine x.elim fun q x=>?_;rw[sX x.1.2,map_cons,map_cons,map_cons,sX x.2.2,IT];rfl
mutual
theorem d9:∀d:D,D.ok d d=true
 |.ae _=>rfl
 |.S _=>rfl
 |.an ds=>D.yd ds
theorem D.yd:∀Z:List D,D.iY Z Z=true
 |[]=>rfl
 |a::r=>(Bool.and_eq_true_iff.mpr ⟨d9 a,D.yd r⟩:(D.ok a a&&D.iY r r)=true)
end
noncomputable def c4(t:aa):Rs->aa|.ok r=>r|.error _=>t
def lL(R:Rs)(t:aa):D:=.an [h8 R,.S t]
def cV(C:eW)(A:fh)(n f:Nat)(ws:List V)(M:cr)(m:Nat)(R:Rs)(Q:cr->Prop)(a8:Nat):Prop:=
 ∀(D:aa)(h:ar)(q:Nat)(P:a3 V)(E:a3 Nat),aN A 0 M m D h->Loc D h q (.ag<|.S c3::ws)->(∀r Z X W,R=.ok r->Q W->aN A 0 W a8 X Z->au D h X Z->P (.S r) Z)->(∀e Z X U W,R=.error U->Q W->aN A 0 W a8 X Z->au D h X Z->jr X Z e U->E e Z)->C n none (.Y f) [.Y A.H,.Y q] P E h
def gE(C:eW)(n f:Nat)(ws:List V)(R:Rs):Prop:=
 ∀(h:ar)(H q:Nat)(P:a3 V)(E:a3 Nat),h q=some (.ag<|.S c3::ws)->(∀r Z,R=.ok r->Ext h Z->P (.S r) Z)->(∀e Z X a7,R=.error X->cq h Z e a7 X->E e Z)->C n none (.Y f) [.Y H,.Y q] P E h
theorem gE.cmd{C A n f ws M m R}(x:gE C n f ws R)(V:∀Z,R=.error Z->Z.msg.length<=1000000):cV C A n f ws M m R (fun U=>U=M) m:=
 fun D h q P E Y T S Q=>x h A.H q P E T.2 (fun r X O e=>S r X D M O rfl (Y.ext e)<|au.ext e) fun e X Z a7 W y=>Q e X D Z M W rfl (Y.ext y.ext) (au.ext y.ext) (y.toN Y<|V Z W).g
section
variable{C:eW}{ax:Nat->Option (List V)}{n:Nat}{U:Option Nat}{P:a3 V}{E:a3 Nat}{h:ar}{A:fh}{aY:Int}{M:cr}{m a8:Nat}{D:aa}{Q:cr->Prop}{R:Rs}
theorem fX(c:aQ C ax)(j:n<=50){sub ws f i}(F:aH sub eO=some (.Y f))(hc:cV C A (n+5) f (.S sub::ws) M m R Q a8)(x:aN A 0 M m D h)(hw:Loc D h i (.ag<|.S sub::ws))(g:ws.length<=100000)(k:∀t I B b,Q b->aN A 0 b a8 B I->au D h B I->dC B I t R->P (.Y t) I):C n none (.Y 996) [.Y A.H,.Y i] P E h:=by refine c.fn rfl (af j) ?_;refine x.own rfl (fun O O=>rfl) ?_;intro p z;have z:h p=none:=z;have T:Ext h (h.set p (.ag [.S c3])):=aw z;refine add_list (aD) (T _ _ hw.2) ((aF 0xc3501120204200000064c0900a04a8101) g) ?_;intro q N;have N:(h.set p (.ag [.S c3])) q=none:=N;have a:Ext (h.set p (.ag [.S c3])) ((h.set p (.ag [.S c3])).set q (.ag ([.S c3]++.S sub::ws))):=aw N;refine s_call c (am j) ((x.ext T).ext a) (ws:=ws) (sub:=sub) ((x.ext T).new N) (af g) F fun h1 P1 x1 G hP=>?_;have L:au D h D h1:=(au.ext<|T.trans a).trans G;refine hc D h1 q _ _ x1 (G.loc<|(x.ext T).new N) (fun r V w u s o K J=>hP _ _ ?_) fun e V w er u s o K J ge=>?_;intro t W;have W:V t=none:=W;have U:Ext V (V.set t (.an [.ae 0,.S r])):=aw W;refine k t _ w u o (K.ext U) ((L.trans J).trans<|au.ext U) ?_;exact Z s<|K.new W;refine ge.elim fun d cf l y a0 gR ln X=>?_;refine⟨⟨d,cf,X.1.2⟩,?_⟩;refine gy X.1.2 X.2.2 (v:=.ae 1) rfl rfl hq ?_;refine gy X.1.2 X.2.2 (v:=.S er.msg) rfl rfl ja ?_;refine gy X.1.2 X.2.2 (v:=.Y l) rfl rfl eU ?_;intro t W;have W:V t=none:=W;have U:Ext V (V.set t (.an [.ae 1,.S er.msg,.Y l])):=aw W;intro _;refine k t _ w u o (K.ext U) ((L.trans J).trans<|au.ext U) ?_;exact Z s ⟨l,K.new W,(au.ext U).loc X.3⟩
theorem IU(c:aQ C ax)(U:n<=80){t Z}(x:dC D h t R)(k:∀a W,Ext h W->h a=none->W a=some (.an [.Y t,.S<|c4 Z R])->P (.Y a) W):C n none (.Y 1010) [.S Z,.Y t] P E h:=by
 refine c.fn rfl (af U) ?_;cases R with
 |ok r=>refine cC x.2 (v:=.ae 0) rfl<|cC x.2 (v:=.S r) rfl ?_;intro a X;exact k a _ (aw X) X<|aD
 |error T=>refine x.elim fun q V=>?_;refine cC V.1.2 (v:=.ae 1) rfl ?_;intro a X;exact k a _ (aw X) X<|aD
theorem pC(c:aQ C ax)(J:n<=49){sub more f i d b W y}(u:aH sub eO=some (.Y f))(hc:cV C A (n+6) f (.S sub::.S bw::more) (setM M bw<|some W) (m+1) R Q a8)(x:aN A 0 M m D h)(hm:m+1<=900000)(a0:a8<=900000)(hs:Loc D h i (.ag [.Y d]))(ht:Loc D h d (.an [.S sub,.Y b]))(hq:Loc D h b (.ag more))(hl:more.length<=10000)(hQ:∀V,Q V->V bw=some y)(k:∀a g U I V,Q V->aN A 0 V (a8+1) I U->au D h I U->Loc I U a (.an [.Y g,.S y])->dC I U g R->P (.Y a) U):C n none (.Y 1003) [.Y A.H,.S W,.Y i] P E h:=by refine c.fn rfl (af J) ?_;refine x.own rfl (fun O O=>rfl) ?_;refine gD c (am J) x ((aF 0xdbba028604805021e848050808101) hm) fun Z D1 x1 a1=>?_;intro p s;have s:Z p=none:=s;have xp:Ext Z (Z.set p (.an [.ae 0,.S []])):=aw s;have X:au D h D1 (Z.set p (.an [.ae 0,.S []])):=a1.trans<|au.ext xp;have a2:=X.loc hs;refine hx a2.2 ?_;refine eY (X.loc ht).2 ?_;refine cC (aD) (v:=.ae 0) rfl ?_;intro r T;have T:(Z.set p (.an [.ae 0,.S []])) r=none:=T;have N:Ext (Z.set p (.an [.ae 0,.S []])) ((Z.set p (.an [.ae 0,.S []])).set r (.ag [.S sub,.S bw])):=aw T;refine add_list (aD) (N _ _ (X.loc hq).2) ((aF n2) hl) ?_;intro w G;have G:((Z.set p (.an [.ae 0,.S []])).set r (.ag [.S sub,.S bw])) w=none:=G;have xw:=aw (o:=.ag<|[.S sub,.S bw]++more) G;have x3:=((x1.ext xp).ext N);have a3:=X.trans<|au.ext (D:=D1)<|N.trans xw;refine fX c (am J) u hc (x3.ext xw) (x3.new G) (by simp;exact af hl) fun t h4 D4 q L x4 a4 r4=>?_;have K:=a3.trans a4;refine⟨(K.loc hs).2,?_⟩;refine x4.own rfl (fun O O=>rfl) ?_;refine fE c (am J) x4 (af a0) (aL) (fun v F D5 l x5 z=>?_) fun e F D5 l=>absurd (l.symm.trans<|hQ q L) fo;cases l.symm.trans (hQ q L);intro a B;have B:F a=none:=B;have j:Ext F (F.set a (.an [.Y t,.S y])):=aw B;exact k a t _ D5 q L (x5.ext j) ((K.trans z).trans<|au.ext j) (x5.new B)<|(r4.cv z).cv<|au.ext j
noncomputable def stepT(R:Rs)(Y Z:aa):aa:=match R with|.ok _=>Y|.error _=>Z
noncomputable def pD(R Z:Rs):Rs:=match R with|.ok _=>Z|.error e=>.error e
theorem IV(c:aQ C ax)(G:n<=49){sub Z more W f f2 sq tq mq a0 a1 d V tt R2 Q2}(a9:aH sub eO=some (.Y f))(b:aH Z eO=some (.Y f2))(hc:cV C A (n+6) f (.S sub::.S bw::more) (setM M bw<|some V) (m+1) R Q a8)(aa:∀U,(∃r,R=.ok r)->Q U->cV C A (n+6) f2 (.S Z::.S bw::W) U a8 R2 Q2 d)(x:aN A 0 M m D h)(hm:m+1<=900000)(ab:a8<=900000)(ac:d<=900000)(ad:a8<=d)(hs:Loc D h sq (.ag [.Y tq,.Y a0]))(ht:Loc D h tq (.an [.S sub,.Y mq]))(hq:Loc D h mq (.ag more))(ah:Loc D h a0 (.an [.S Z,.Y a1]))(ai:Loc D h a1 (.ag W))(hl:more.length<=10000)(a2:W.length<=10000)(hQ:∀U,Q2 U->U bw=some tt)(a3:∀U er,R=.error er->Q U->U bw=some V)(k:∀a g F D' U,aN A 0 U (d+1) D' F->au D h D' F->Loc D' F a (.an [.Y g,.S<|stepT R tt V])->dC D' F g (pD R R2)->P (.Y a) F):C n none (.Y 1003) [.Y A.H,.S V,.Y sq] P E h:=by
 refine c.fn rfl (af G) ?_;refine x.own rfl (fun O O=>rfl) ?_;refine gD c (am G) x ((aF 0xdbba028604805021e848050808101) hm) fun N D1 x1 aj=>?_;intro p hp;have hp:N p=none:=hp;have xp:Ext N (N.set p (.an [.ae 0,.S []])):=aw hp;have J:au D h D1 (N.set p (.an [.ae 0,.S []])):=aj.trans<|au.ext xp;have ak:=J.loc hs;refine hx ak.2 ?_;refine eY (J.loc ht).2 ?_;refine cC (aD) (v:=.ae 0) rfl ?_;intro q3 B;have B:(N.set p (.an [.ae 0,.S []])) q3=none:=B;have z:Ext (N.set p (.an [.ae 0,.S []])) ((N.set p (.an [.ae 0,.S []])).set q3 (.ag [.S sub,.S bw])):=aw B;refine add_list (aD) (z _ _ (J.loc hq).2) ((aF n2) hl) ?_;intro w hw;have hw:((N.set p (.an [.ae 0,.S []])).set q3 (.ag [.S sub,.S bw])) w=none:=hw;have xw:=aw (o:=.ag<|[.S sub,.S bw]++more) hw;have x3:=((x1.ext xp).ext z);have al:=J.trans<|au.ext (D:=D1)<|z.trans xw;refine fX c (am G) a9 hc (x3.ext xw) (x3.new hw) (by simp;exact af hl) fun t y D4 M4 u x4 ao r4=>?_;have X:=al.trans ao;refine⟨(X.loc hs).2,?_⟩;refine eY (X.loc ah).2 ?_;cases R with
 |ok dE=>have s:Loc D4 y t (.an [.ae 0,.S dE]):=r4;refine cC s.2 (v:=.ae 0) rfl ?_;intro q6 q;have q:y q6=none:=q;have l:Ext y (y.set q6 (.ag [.S Z,.S bw])):=aw q;refine add_list (aD) (l _ _ (X.loc ai).2) ((aF n2) a2) ?_;intro eq I;have I:(y.set q6 (.ag [.S Z,.S bw])) eq=none:=I;have a4:=aw (o:=.ag<|[.S Z,.S bw]++W) I;have x6:=x4.ext l;have ap:=X.trans<|au.ext (D:=D4)<|l.trans a4;refine fX c (am G) b (aa M4 ⟨dE,rfl⟩ u) (x6.ext a4) (x6.new I) (by simp;exact af a2) fun bA h7 D7 M7 a5 x7 aq r7=>?_;have j:=ap.trans aq;refine⟨(j.loc hs).2,?_⟩;refine x7.own rfl (fun O O=>rfl) ?_;refine fE c (am G) x7 (af ac) (aL) (fun v h8 D8 L x8 a6=>?_) fun e i D5 L=>absurd (L.symm.trans<|hQ M7 a5) fo;cases L.symm.trans (hQ M7 a5);intro a T;have T:h8 a=none:=T;have K:Ext h8 (h8.set a (.an [.Y bA,.S tt])):=aw T;exact k a bA _ D8 M7 (x8.ext K) ((j.trans a6).trans<|au.ext K) (x8.new T)<|(r7.cv a6).cv<|au.ext K
 |error er=>have s:=r4;refine s.elim fun qq ar=>?_;refine cC ar.1.2 (v:=.ae 1) rfl ?_;refine⟨(X.loc hs).2,?_⟩;refine x4.own rfl (fun O O=>rfl) ?_;refine fE c (am G) x4 ((aF 0x36ee80a101021e848050808101) ab) (aL) (fun v i D5 L x5 a7=>?_) fun e i D5 L=>absurd (L.symm.trans<|a3 M4 er rfl u) fo;cases L.symm.trans (a3 M4 er rfl u);intro a T;have T:i a=none:=T;have K:Ext i (i.set a (.an [.Y t,.S V])):=aw T;exact k a t _ D5 M4 ((x5.ext K).more<|(az 0x100204204885024028101) ad) ((X.trans a7).trans<|au.ext K) (x5.new T)<|(r4.cv a7).cv<|au.ext K
theorem ny(c:aQ C ax)(Z:n<=60){sub t k v}(Y:t.length<=100000)(X:k.length<=100000)(W:v.length<=100000):gE C n 463 [.S sub,.S t,.S k,.S v] (cZ t k v):=
 fun O O O O O V U T=>H5 c (af Z) Y X W V U T
theorem nz(c:aQ C ax)(Z:n<=60){sub t ac}(Y:t.length<=100000)(X:ac.length<=100000):gE C n 470 (.S sub::.S t::ac.map .S) (fg t ac):=
 fun O O O O O W V U=>H6 c (af Z) Y X W V U
theorem IW(c:aQ C ax)(Z:n<=60){sub t u}(Y:t.length<=100000)(X:u.length<=100000):gE C n 477 [.S sub,.S t,.S u] (mergeF t u):=
 fun O O O O O W V U=>Ib c (af Z) Y X W V U
theorem IX(c:aQ C ax)(Z:n<=60){sub t}(Y:t.length<=100000):gE C n 484 [.S sub,.S t] (g1 t):=
 fun O O O O O X W V=>H7 c (af Z) Y X W V
theorem ye(c:aQ C ax)(Z:n<=60){sub t k}(Y:t.length<=100000)(X:k.length<=100000):gE C n 484 [.S sub,.S t,.S k] (en t k):=
 fun O O O O O W V U=>H8 c (af Z) Y X W V U
theorem IY(c:aQ C ax)(Z:n<=60){sub t k}(Y:t.length<=100000)(X:k.length<=100000):gE C n 498 [.S sub,.S t,.S k] (.ok (if nj t k then[49]else[48])):=
 fun O O O O O W V O=>H9 c (af Z) Y X W fun U e=>V _ U rfl e
theorem IZ(c:aQ C ax)(Z:n<=60){sub t k v}(Y:t.length<=100000):gE C n 491 [.S sub,.S t,.S k,.S v] (iH t k v):=
 fun O O O O O X W V=>Ia c (af Z) Y X W V
theorem I0(c:aQ C ax)(Z:n<=60){sub t}(Y:t.length<=100000):gE C n 512 [.S sub,.S t] (pq t):=
 fun O O O O O X W V=>Ic c (af Z) Y X W V
theorem yf(c:aQ C ax)(Z:n<=60){sub t p}(ok:dT p)(Y:t.length<=100000):gE C n 512 [.S sub,.S t,.S p] (ps t p):=
 fun O O O O O X W V=>Id c (af Z) ok Y X W V
theorem yg(c:aQ C ax)(Z:n<=60){sub t p}(ok:dT p)(Y:t.length<=100000):gE C n 519 [.S sub,.S t,.S p] (pt t p):=
 fun O O O O O X W V=>Ie c (af Z) ok Y X W V
theorem yh(c:aQ C ax)(V:n<=60){sub t g Z Y}(X:dT Z)(W:dT Y)(U:t.length<=100000)(T:g=h6\/g=dU):gE C n 617 [.S sub,.S t,.S g,.S Z,.S Y] (h5 t fun k v=>[Z,Y].any fun p=>bP p (if g=dU then v else k)):=
 fun O O O O O R Q P=>Ig c (af V) X W U T R Q P
theorem ks{nm ws f}(x:∀(D:aa)(h:ar)(q:Nat)(P:a3 V)(E:a3 Nat),aN A 0 M m D h->Loc D h q (.ag<|.S c3::ws)->Upd A 0 M m D h nm R P E->C n none (.Y f) [.Y A.H,.Y q] P E h):cV C A n f ws M m R (fun Q=>Q=fj M nm R) (m+3):=
 fun D h q P E O N L K=>x D h q P E O N ⟨fun r W U X T st=>L r W U _ X rfl (Z X T) st,fun e W U J X T st I=>K e W U J _ X rfl (Z X T) st I.g⟩
theorem I1(c:aQ C ax)(X:n<=60)(W:m<=900000){sub nm t k v}(Z:nm.length<=800000)(V:M nm=some t)(U:t.length<=100000)(T:k.length<=100000)(Y:v.length<=100000):cV C A n 561 [.S sub,.S nm,.S k,.S v] M m (cZ t k v) (fun R=>R=fj M nm (cZ t k v)) (m+3):=
 ks fun O O O O O Q P u=>x3 c (af X) Q W P Z V U T Y u
theorem I2(c:aQ C ax)(V:n<=60)(U:m<=900000){sub nm t k Z v}(Y:nm.length<=800000)(T:M nm=some t)(R:t.length<=100000)(Q:k.length<=100000)(X:Z.length<=100000)(W:v.length<=100000):cV C A n 561 [.S sub,.S nm,.S k,.S Z,.S v] M m (gA t k Z v) (fun P=>P=fj M nm (gA t k Z v)) (m+3):=
 ks fun O O O O O N L u=>Iw c (af V) N U L Y T R Q X W u
theorem I3(c:aQ C ax)(Y:n<=60)(X:m<=900000){sub nm t k}(Z:nm.length<=800000)(W:M nm=some t)(V:t.length<=100000):cV C A n 568 [.S sub,.S nm,.S k] M m (km t k) (fun U=>U=fj M nm (km t k)) (m+3):=
 ks fun O O O O O T R u=>Ix c (af Y) T X R Z W V u
theorem I4(c:aQ C ax)(W:n<=60)(V:m<=900000){sub nm t k Z}(Y:nm.length<=800000)(U:M nm=some t)(T:t.length<=100000)(R:k.length<=100000)(X:Z.length<=100000):cV C A n 568 [.S sub,.S nm,.S k,.S Z] M m (gB t k Z) (fun Q=>Q=fj M nm (gB t k Z)) (m+3):=
 ks fun O O O O O P N u=>Iy c (af W) P V N Y U T R X u
theorem sY(c:aQ C ax)(X:n<=60)(W:m<=900000){sub nm t k v ad}(Z:nm.length<=800000)(V:M nm=some t)(U:t.length<=100000)(T:k.length<=100000)(Y:b3 (v::ad)+ad.length<=100000):cV C A n 540 (.S sub::.S nm::.S k::(v::ad).map .S) M m (dW t k<|v::ad) (fun R=>R=fj M nm (dW t k<|v::ad)) (m+3):=
 ks fun O O O O O Q P u=>Iz c (af X) Q W (l:=c3) (bq:=sub) P Z V U T Y u
theorem sZ(c:aQ C ax)(X:n<=60)(W:m<=900000){sub nm t k v ad}(Z:nm.length<=800000)(V:M nm=some t)(U:t.length<=100000)(T:k.length<=100000)(Y:b3 (v::ad)+ad.length<=100000):cV C A n 547 (.S sub::.S nm::.S k::(v::ad).map .S) M m (df t k<|v::ad) (fun R=>R=fj M nm (df t k<|v::ad)) (m+3):=
 ks fun O O O O O Q P u=>IA c (af X) Q W (w0:=c3) (bq:=sub) P Z V U T Y u
theorem nA(c:aQ C ax)(X:n<=60)(W:m<=900000){sub nm t k b:aa}{ws}(Z:(ws=[]/\b=[49])\/ws=[.S b])(Y:nm.length<=800000)(V:M nm=some t)(U:t.length<=100000)(T:k.length<=100000)(R:b.length<=100000)(aj:∀d u o i,a0 t=.ok d->aH k d=some u->wholeOf u=some o->wholeOf b=some i->(o+i).natAbs.log2<1920/\(ci<|o+i).length<=100000):cV C A n 554 (.S sub::.S nm::.S k::ws) M m (cJ t k b) (fun Q=>Q=fj M nm (cJ t k b)) (m+3):=
 ks fun O O O O O P N u=>IB c (af X) P W (F:=c3) (bq:=sub) Z N Y V U T R aj u
end
noncomputable def kt(Z:Rs)(F:aa->Rs)(t one:aa):Rs:=match Z with|.error e=>.error e|.ok v=>match F v with|.error e=>.error e|.ok w=>cZ t one w
theorem I5:a0 []=.ok []:=by unfold a0;exact Z (gT<|by rfl) rfl
theorem I6(t one Z item):kt (iH t one []) (fun v=>cZ v Z item) t one=gA t one Z item:=by
 unfold kt iH gA;rcases U:a0 t with e|d
 .rfl
 .
  dsimp only[Except.map];rcases X:aH one d with _|u
  .
   simp only[Option.getD,cZ,I5,U,Except.map]
  .
   simp only[Option.getD];rcases Y:a0 u with e|d2
   .simp only[cZ,Y,Except.map]
   .simp only[cZ,Y,U,Except.map]
theorem I7(t one Z):kt (en t one) (fun v=>fg v [Z]) t one=gB t one Z:=by
 unfold kt en gB;rcases U:a0 t with e|d
 .rfl
 .
  dsimp only;rcases Y:aH one d with _|u
  .rfl
  .
   dsimp only;unfold fg iG;rcases X:a0 u with e|d2
   .rfl
   .
    simp only[Except.map,List.foldl,cZ,U]
theorem s0{t ac Z}(h:fg t ac=.error Z):Z.msg.length<=1000000:=by
 unfold fg at h;rcases q:a0 t with e|d
 .rw[q]at h;obtain rfl:=Except.error.inj h;have:=eQ q;exact af this
 .rw[q]at h;trivial
theorem I8{t k v Z}(h:iH t k v=.error Z):Z.msg.length<=1000000:=by
 unfold iH at h;rcases q:a0 t with e|d
 .rw[q]at h;obtain rfl:=Except.error.inj h;have:=eQ q;exact af this
 .rw[q]at h;trivial
theorem I9{t Z}(h:g1 t=.error Z):Z.msg.length<=1000000:=by
 unfold g1 at h;rcases q:a0 t with e|d
 .rw[q]at h;obtain rfl:=Except.error.inj h;have:=eQ q;exact af this
 .rw[q]at h;trivial
theorem Ja{t k Z}(Y:k.length<=100000)(h:en t k=.error Z):Z.msg.length<=1000000:=by
 unfold en at h;rcases q:a0 t with e|d
 .rw[q]at h;obtain rfl:=Except.error.inj h;have:=eQ q;exact af this
 .
  rw[q]at h;dsimp only at h;split at h;obtain rfl:=Except.error.inj h;have:=x2 k;exact((az n0) Y this);trivial
theorem nB{t k v Z}(h:cZ t k v=.error Z):Z.msg.length<=1000000:=by have:=x1 h;exact af this
theorem Jb{t k v r}(h:cZ t k v=.ok r):r.length<=6*t.length+2*(k.length+v.length)+8:=by
 unfold cZ at h;rcases q:a0 t with e|d
 .rw[q]at h;trivial
 .
  rw[q]at h;obtain rfl:=Except.ok.inj h;have:=iF<|put k v d;have t1:=e0 k v d;have bA:=cH q;exact((fK 0x5181b21021010a030a04c8242204040081080850185026a30369008103) this t1 bA)
theorem Jc{t ac r}(h:fg t ac=.ok r):r.length<=6*t.length:=by
 unfold fg at h;rcases q:a0 t with e|d
 .rw[q]at h;trivial
 .
  rw[q]at h;obtain rfl:=Except.ok.inj h;have t1:=iF<|iG d ac;have bA:=H1 ac d;have t3:=cH q;exact((bh 0xc606c8408101102020040818c0d808103) t1 bA t3)
theorem yj{t k v r}(h:iH t k v=.ok r):r.length<=t.length+v.length:=by
 unfold iH at h;rcases q:a0 t with e|d
 .rw[q]at h;trivial
 .
  rw[q]at h;have h:(aH k d).getD v=r:=by obtain rfl:=Except.ok.inj h;rfl
  rcases Z:aH k d with _|u
  .rw[Z]at h;simp at h;subst h;exact(az 0x21008100)
  .rw[Z]at h;simp at h;subst h;have:=gz q Z;exact((aT 0x4008102021008101) this)
theorem yk{t k r}(h:en t k=.ok r):r.length<=t.length:=by
 unfold en at h;rcases q:a0 t with e|d
 .rw[q]at h;trivial
 .
  rw[q]at h;dsimp only at h;rcases Z:aH k d with _|u
  .rw[Z]at h;trivial
  .rw[Z]at h;obtain rfl:=Except.ok.inj h;exact gz q Z
theorem e4{M t}{R:Rs}:fj (setM M bw<|some t) bw R bw=some (c4 t R):=by
 cases R with
 |ok r=>rfl
 |error e=>rfl
theorem nC{D h a g X R}(W:Loc D h a (.an [.Y g,.S X]))(V:dC D h g R):dat 4 h (.Y a)=some (lL R X):=by have e:=V.dat (n:=1);show(match h a with|some (.an xs)=>(gn<|xs.map<|Mine.Internal.dat 3 h).map Mine.Internal.D.an|_=>none)=_;rw[W.2];show(gn [Mine.Internal.dat 3 h<|.Y g,Mine.Internal.dat 3 h<|.S X]).map Mine.Internal.D.an=_;exact Z e rfl
section
variable{C:eW}{ax:Nat->Option (List V)}{n:Nat}{U:Option Nat}{P:a3 V}{E:a3 Nat}{h:ar}{A:fh}{aY:Int}{M:cr}{m a8:Nat}{D:aa}{Q:cr->Prop}{R:Rs}
theorem yl(c:aQ C ax)(Q:n<=48){W X one fp f r g F}(L:aH W eO=some (.Y f))(hc:∀v,R=.ok v->cV C A (n+6) f (.S W::.S v::fp) M m (F v) (fun M'=>M'=M) m)(x:aN A 0 M m D h)(l:Loc D h r (.ag<|.S W::fp))(K:fp.length<=10000)(J:dC D h g R)(ht:X.length<=100000)(ho:one.length<=100000)(hF:∀v w,R=.ok v->F v=.ok w->w.length<=100000)(k:∀a O I,aN A 0 M m I O->au D h I O->dC I O a (kt R F X one)->P (.Y a) O):C n none (.Y 1017) [.Y A.H,.S X,.S one,.Y g,.Y r] P E h:=by
 refine c.fn rfl (af Q) ?_;cases R with
 |error j=>have i:=J;refine i.elim fun q N=>?_;exact cC N.1.2 (v:=.ae 1) rfl<|cC N.1.2 (v:=.ae 1) rfl<|k g h D x (au.ext Ext.rfl) J
 |ok v=>
  have e:Loc D h g (.an [.ae 0,.S v]):=J;refine cC e.2 (v:=.ae 0) rfl<|bj l.2 (v:=.S W) rfl<|cC e.2 (v:=.S v) rfl ?_;intro p hp;have G:Ext h (h.set p (.ag [.S W,.S v])):=aw hp;refine ej (t:=fp) (G _ _ l.2) (lu (a:=1)<|succ_pos _) (by simp;exact af K) rfl rfl ?_;intro q d;have B:Ext (h.set p (.ag [.S W,.S v])) ((h.set p (.ag [.S W,.S v])).set q (.ag fp)):=aw d;refine add_list (B _ _<|aD) (aD) ((aF n2) K) ?_;intro w b;have x2:=(x.ext G).ext B;have xw:=aw (o:=.ag<|[.S W,.S v]++fp) b;have a0:au D h D _:=au.ext<|(G.trans B).trans xw;refine fX c (am Q) L (hc v rfl) (x2.ext xw) (x2.new b) (by simp;exact af K) fun t h3 D3 M3 y s a1 U=>?_;cases y;have T:=a0.trans a1;rcases V:F v with j|u
  .
   rw[V]at U;have a2:=U;refine a2.elim fun q a3=>?_;refine cC a3.1.2 (v:=.ae 1) rfl ?_;exact k t h3 D3 s T (by unfold kt;dsimp only;exact Z V U)
  .
   rw[V]at U;have l3:Loc D3 h3 t (.an [.ae 0,.S u]):=U;refine cC l3.2 (v:=.ae 0) rfl<|cC l3.2 (v:=.S u) rfl ?_;intro z hz;have xz:=aw (o:=.ag [.S fZ,.S X,.S one,.S u]) hz;have a4:=hF v u rfl V;refine fX c (am Q) (f:=463) rfl ((ny c (cW Q) ht ho a4).cmd fun j he=>nB he) (s.ext xz) (s.new hz) (aL) fun ii h4 D4 M4 y x4 a5 r4=>?_;cases y;exact k ii h4 D4 x4 ((T.trans<|au.ext xz).trans a5) (by unfold kt;dsimp only;exact Z V r4)
theorem pE(c:aQ C ax)(B:n<=46){sub more f g Z}{cy:V->V->ar->Prop}(K:aH sub eO=some (.Y f))(l:cV C A (n+7) f (.S sub::.S bw::more) (setM M bw<|some Z) (m+1) R Q a8)(x:aN A 0 M m D h)(j:m+1<=800000)(z:a8<=800000)(i:more.length<=10000)(e:∀T,Q T->T bw=some (c4 Z R))(w:dC D h g R)(k:∀a b W v T,aN A 0 T (a8+1) v W->au D h v W->dat 4 W (.Y a)=some (lL R<|c4 Z R)->dat 4 W (.Y b)=some (lL R<|c4 Z R)->cy (.Y a) (.Y b) W):
  cE (.ag more) (fun J h=>cE (.an [.S sub,J]) (fun I h=>cE (.ag [I]) (fun u h=>C (n+1) none (.Y 1003) [.Y A.H,.S Z,u] (fun x h=>C (n+1) none (.Y 1010) [.S Z,.Y g] (fun y h=>cy x y h) E h) E h) h) h) h:=by
 intro J O;have t:=aw (o:=.ag more) O;intro I N;have G:=aw (o:=.an [.S sub,.Y J]) N;intro u L;have P:=aw (o:=.ag [.Y I]) L;have s1:=x.ext t;have s2:=s1.ext G;have s3:=s2.ext P;refine pC c (am B) K l s3 (af j) (af z) (s2.new L) ((au.ext P).loc<|s1.new N) ((au.ext<|G.trans P).loc<|x.new O) i e fun a g2 d F M4 a0 s r la q=>?_;have X:au D h F d:=(au.ext<|(t.trans G).trans P).trans r;refine IU c (am B) (w.cv X) fun b h5 U hb p=>?_;exact k a b h5 F M4 (s.ext U) (X.trans<|au.ext U) (nC ((au.ext U).loc la)<|q.cv<|au.ext U)<|nC (D:=F) ⟨s.fresh hb,p⟩<|(w.cv X).cv<|au.ext U
theorem Jd(c:aQ C ax)(X:n<=44){E U one R item}(x:aN A 0 M m D h)(T:m<=100000)(V:U.length<=1000)(O:one.length<=1000)(B:R.length<=1000)(J:item.length<=1000)(k:∀q g I,aN A 0 I (m+50) g q->au D h g q->P (.aP true) q):C n none (.Y 1024) [.Y A.H,.S U,.S one,.S R,.S item] P E h:=by refine c.fn rfl (af X) ?_;intro q1 z;have e:=aw (o:=.ag [.S ky,.S U,.S one,.S []]) z;refine fX c (am X) (f:=491) rfl ((IZ (v:=[]) c (cW X)<|af V).cmd fun G Q=>I8 Q) (x.ext e) (x.new z) (aL) fun g1 d D1 M1 W x1 a0 r1=>?_;cases W;have s1:au D h D1 d:=(au.ext e).trans a0;intro q2 y;have p:=aw (o:=.ag [.S fZ,.S R,.S item]) y;refine yl c (am X) (f:=463) (F:=fun v=>cZ v R item) rfl (fun v N=>(ny c (cW X) (by have:=yj N;exact bp this<|af V) (af B)<|af J).cmd fun G Q=>nB Q) (x1.ext p) (x1.new y) (aL) (r1.cv<|au.ext p) (af V) (af O) (fun v w N l=>bp (Jb l)<|bp (Nat.add_le_add_right (add_le_add (mul_le_mul_left 6<|bp (yj N) V)<|mul_le_mul_left 2<|add_le_add B J) 8)<|a1) fun g2 a2 D2 x2 a3 r2=>?_;rw[I6]at r2;have s2:au D h D2 a2:=(s1.trans<|au.ext p).trans a3;refine pE c (af X) (f:=561) rfl (I2 c (am X) (am T) (aL) (by rfl) (af V) (af O) (af B)<|af J) x2 (am T) (cW T) (aL) (fun I W=>Z W e4) r2 fun a b a4 D3 M3 x3 a5 L K=>?_;have s3:au D h D3 a4:=s2.trans a5;refine⟨_,_,L,K,d9 _,?_⟩;rw[eb];intro q4 u;have a6:=aw (o:=.ag [.S hJ,.S U,.S one]) u;refine fX c (am X) (f:=484) rfl ((ye c (cW X) (af V)<|af O).cmd fun G Q=>Ja (af O) Q) (x3.ext a6) (x3.new u) (aL) fun g4 a7 D4 M4 W x4 a8 r4=>?_;cases W;have s4:au D h D4 a7:=(s3.trans<|au.ext a6).trans a8;intro q5 t;have j:=aw (o:=.ag [.S e5,.S R]) t;refine yl c (am X) (f:=470) (F:=fun v=>fg v [R]) rfl (fun v N=>(nz (ac:=[R]) c (cW X) (af<|bp (yk N) V)<|succ_pos _).cmd fun G Q=>s0 Q) (x4.ext j) (x4.new t) (succ_pos _) (r4.cv<|au.ext j) (af V) (af O) (fun v w N l=>bp (Jc l)<|bp (mul_le_mul_left 6<|bp (yk N) V)<|a1) fun g5 a9 D5 x5 aa r5=>?_;rw[I7]at r5;have s5:au D h D5 a9:=(s4.trans<|au.ext j).trans aa;refine pE c (af X) (f:=568) rfl (I4 c (am X) ((aF 0xc350112020436ee80a181302704604804928101) T) (aL) (by rfl) (af V) (af O)<|af B) x5 ((aF 0xc350112020430d400a181302704604804928101) T) ((aF 0x61a80890102186a0050e08c09813823024024928101) T) (aL) (fun I W=>Z W e4) r5 fun a b ab D6 M6 x6 ad L K=>?_;have s6:au D h D6 ab:=s5.trans ad;refine⟨_,_,L,K,d9 _,?_⟩;rw[eb];intro q7 s;have e7:=aw (o:=.ag [.S e5,.S U,.S one]) s;refine fX c (am X) (f:=470) rfl ((nz (ac:=[one]) c (cW X) (af V)<|succ_pos _).cmd fun G Q=>s0 Q) (x6.ext e7) (x6.new s) (aL) fun g7 ae D7 M7 W x7 ah r7=>?_;cases W;have s7:au D h D7 ae:=(s6.trans<|au.ext e7).trans ah;refine pE c (af X) (f:=568) rfl (I3 c (am X) ((aF 0x61a808901021b774050c0981382302604e08c0900924928101) T) (aL) (by rfl)<|af V) x7 ((aF 0x61a80890102186a0050c0981382302604e08c0900924928101) T) ((aF 0x30d404480810c350028704604c09c1181302704604804924928101) T) (succ_pos _) (fun I W=>Z W e4) r7 fun a b ai D8 M8 x8 aj L K=>?_;have s8:au D h D8 ai:=s7.trans aj;refine⟨_,_,L,K,d9 _,?_⟩;rw[eb];intro q9 r;have e9:=aw (o:=.ag [.S fZ,.S U,.S one,.S item]) r;refine fX c (am X) (f:=463) rfl ((ny c (cW X) (af V) (af O)<|af J).cmd fun G Q=>nB Q) (x8.ext e9) (x8.new r) (aL) fun g9 ak D9 M9 W x9 al r9=>?_;cases W;have s9:au D h D9 ak:=(s8.trans<|au.ext e9).trans al;refine pE c (af X) (f:=561) rfl (I1 c (am X) ((aF 0x30d404480810dbba028604c09c1181302704604c09c118120124924928101) T) (aL) (by rfl) (af V) (af O)<|af J) x9 ((aF 0x30d404480810c350028604c09c1181302704604c09c118120124924928101) T) ((aF 0x186a0224040861a8014382302604e08c0981382302604e08c0900924924928101) T) (aL) (fun I W=>Z W e4) r9 fun a b an ao ap aq i L K=>?_;refine⟨_,_,L,K,d9 _,?_⟩;rw[eb];exact k an ao ap (aq.more<|aF 0x1906201409c1181302704604c09c1181302704604804924924928100)<|s9.trans i
end
end
def Tail(r:aa):Prop:=r=[]\/∃s,r=32::s
theorem s4:b9 32=true:=by rfl
theorem Je{w r}(h:Tail r):et w r=none:=by
 rcases h with rfl|⟨s,rfl⟩
 .rfl
 .unfold et;dsimp only;exact Z (if_pos s4) rfl
theorem ym{r}(h:Tail r):bare r=([],r):=by
 rcases h with rfl|⟨s,rfl⟩
 .exact o2
 .exact o3 _ s4
theorem yn(c):b9 c=true↔c=32\/c=9\/c=10\/c=11\/c=12\/c=13:=by unfold b9;simp[gp,gq]
theorem pF{c}(U:c≠123)(T:c≠125)(S:c≠92)(r:aa)(d)(b X R):cP fun W Y V=>ct (ch (c::r) d b X R=ch r d W Y V) (W=false->b=false/\b9 c=false) (X=true->Y=true):=by refine Z (jc S)<|Z (if_neg U)<|Z (if_neg T) ?_;by_cases q:c=93\/c=34;refine Z (if_pos q) ?_;exact⟨_,_,_,rfl,nofun,fun h=>h⟩;refine Z (if_neg q) ?_;by_cases q:c=91\/c=36\/c=59\/b9 c=true;refine Z (if_pos q) ?_;exact⟨_,_,_,rfl,nofun,fun O=>rfl⟩;refine Z (if_neg q) ?_;exact⟨_,_,_,rfl,fun h=>⟨h,eq_false_of_ne_true fun Q=>q<|.inr<|.inr<|.inr Q⟩,fun h=>h⟩
theorem s5(r:aa)(d)(b Z Y):ch (123::r) d b Z Y=ch r (d+1) b Z Y:=(jc<|by decide).trans<|if_pos rfl
theorem s6(r:aa)(d)(b Z Y):ch (125::r) d b Z Y=if d=0 then(2,b,Z,Y)else ch r (d-1) b Z Y:=(jc<|by decide).trans<|(if_neg<|by decide).trans<|if_pos rfl
theorem Jf{c}(Y:c≠123)(X:c≠125)(W:c≠92)(r:aa)(d):dd d (c::r)=(dd d r).map (·+1):=by exact Z (o0 W)<|Z (if_neg Y)<|Z (if_neg X) rfl
theorem Jg(r:aa)(d):dd d (123::r)=(dd (d+1) r).map (·+1):=(o0<|by decide).trans<|if_pos rfl
theorem s7(r:aa)(d):dd d (125::r)=if d=1 then some 0 else(dd (d-1) r).map (·+1):=(o0<|by decide).trans<|(if_neg<|by decide).trans<|if_pos rfl
theorem s8{P:aa->Prop}(hz:P [])(zq1:∀c s,P s->(∀e r,s=e::r->P r)->P (c::s))(s:aa):P s:=by
 suffices key:P s/\∀e r,s=e::r->P r from key.1
 induction s with
 |nil=>exact⟨hz,fun O O=>nofun⟩
 |cons c s ab=>exact⟨zq1 c s ab.1 ab.2,fun e r q=>(List.cons.inj q).2▸ab.1⟩
theorem Jh(r s:aa):∀(d:Nat)(b X Y:Bool),(ch s d b X Y).1≠2->dd (d+1) (s++125::r)=some s.length:=by
 induction s using s8 with
 |hz=>
  intro d b X Y h;cases d with
  |zero=>exact(s7 r 1).trans<|if_pos rfl
  |succ d=>exact absurd (show(if 0<d+1 then 2 else 0)=2 from if_pos (succ_pos d)) h
 |zq1 c s ab T=>
  intro d b X Y h;show dd (d+1) (c::(s++125::r))=some (s.length+1);by_cases S:c=92;subst S;cases s with|nil=>exact absurd rfl h|cons e s=>replace h:=o5▸h;show dd (d+1) (92::e::(s++125::r))=some (s.length+2);rw[Gd];by_cases O:e=10;replace h:=(if_pos O)▸h;exact absurd rfl h;replace h:=(if_neg O)▸h;by_cases W:e=123\/e=125\/e=92;replace h:=(if_pos W)▸h;refine Z (T e s rfl d true true Y h) ?_;rfl;replace h:=(if_neg W)▸h;refine(pF (c:=e) (fun q=>W<|.inl q) (fun q=>W<|.inr<|.inl q) (fun q=>W<|.inr<|.inr q) s d true true Y).elim fun R V U N=>?_;replace h:=N.1▸h;refine Z (T e s rfl d R V U h) ?_;rfl
  .by_cases Q:c=123;subst Q;rw[s5]at h;(rw[Jg];refine Z (ab (d+1) b X Y h) ?_);rfl
   .by_cases P:c=125;subst P;rw[s6]at h;cases d with|zero=>exact absurd rfl h|succ d=>(rw[s7];refine Z (if_neg<|succ_succ_ne_one d)<|Z (show d+1+1-1=d+1 from rfl)<|Z (ab d b X Y h) ?_);rfl
    .refine(pF Q P S s d b X Y).elim fun R V U M=>?_;replace h:=M.1▸h
     (rw[Jf Q P S];refine Z (ab d R V U h) ?_);rfl
theorem Ji(s):∀(d:Nat)(b Y:Bool),(ch s d b true Y).2.2.1=true:=by
 induction s using s8 with
 |hz=>intro d b Y;rfl
 |zq1 c s ab W=>
  intro d b Y;by_cases V:c=92;subst V;cases s with|nil=>rfl|cons e s=>rw[o5];by_cases U:e=10;exact Z (if_pos U) rfl;refine Z (if_neg U) ?_;by_cases T:e=123\/e=125\/e=92;refine Z (if_pos T) ?_;exact W e s rfl d true Y;refine Z (if_neg T) ?_;exact ab d true Y
  .by_cases S:c=123;subst S;rw[s5];exact ab (d+1) b Y
   .by_cases R:c=125
    .subst R;rw[s6];cases d with|zero=>rfl|succ d=>exact ab d b Y
    .refine(pF S R V s d b true Y).elim fun P O Q X=>?_;refine Z X.1<|Z (X.3 rfl) ?_;exact ab d P Q
theorem Jj(s):∀(d:Nat)(b X Y:Bool),(ch s d b X Y).1≠2->(ch s d b X Y).2.1=false->b=false/\∀c∈s,b9 c=false/\c≠92:=by
 induction s using s8 with
 |hz=>intro d b X Y h Z;exact⟨Z,fun c h=>nomatch h⟩
 |zq1 c s ab T=>
  intro d b X Y h Z;have fin:∀{d U X Y},(U=false->b=false/\b9 c=false/\c≠92)->(ch s d U X Y).1≠2->(ch s d U X Y).2.1=false->b=false/\∀x∈c::s,b9 x=false/\x≠92:=fun k h Z=>
   have i:=ab _ _ _ _ h Z
   ⟨(k i.1).1,fun x O=>(bU O).elim (fun e=>e▸(k i.1).2)<|i.2 x⟩
  by_cases W:c=92;subst W;cases s with|nil=>exact absurd rfl h|cons e s=>rw[o5]at h Z;by_cases S:e=10;replace h:=(if_pos S)▸h;exact absurd rfl h;rw[if_neg S]at h Z;by_cases R:e=123\/e=125\/e=92;rw[if_pos R]at h Z;exact nomatch (T e s rfl d true true Y h Z).1;rw[if_neg R]at h Z;exact nomatch (ab d true true Y h Z).1
  .by_cases Q:c=123;subst Q;rw[s5]at h Z;exact fin (fun q=>⟨q,by decide,W⟩) h Z
   .by_cases P:c=125
    .subst P;rw[s6]at h Z;cases d with|zero=>exact absurd rfl h|succ d=>exact fin (fun q=>⟨q,by decide,W⟩) h Z
    .refine(pF Q P W s d b X Y).elim fun U N M V=>?_;rw[V.1]at h Z;exact fin (fun q=>⟨(V.2 q).1,(V.2 q).2,W⟩) h Z
theorem Jk{r}(Y:Tail r):∀{s:aa},(∀c∈s,b9 c=false/\c≠92)->bare (s++r)=(s,r):=by
 intro s;induction s with
 |nil=>intro O;exact ym Y
 |cons c s ab=>intro h;exact Z cons_append<|Z (la _ (h c<|.head _).1 (h c<|.head _).2)<|Z (ab fun x X=>h x<|.tail _ X) rfl
theorem yo{c}(h:kd c=none)(Z:c≠32):b9 c=false:=eq_false_of_ne_true fun Y=>by
 rcases(yn c).mp Y with e|e|e|e|e|e
 .exact Z e
 all_goals(subst e;trivial)
theorem Jl(c)(Y)(r):bare (ez c Y++r)=(c::(bare r).1,(bare r).2):=by
 unfold ez;rcases h:kd c with _|x
 .dsimp only;by_cases q:(c=93\/c=91\/c=36\/c=59\/c=32\/c=92\/c=34)\/(Y=true/\(c=123\/c=125))
  .refine Z (if_pos q) ?_;have X:bZ (c::r)=([c],r):=by rcases q with(rfl|rfl|rfl|rfl|rfl|rfl|rfl)|⟨_,rfl|rfl⟩<;>rfl
   show bare (92::c::r)=_
   (rw[kb];refine Z X ?_);rfl
  .exact Z (if_neg q)<|la _ (yo h fun e=>q<|.inl<|.inr<|.inr<|.inr<|.inr<|.inl e) fun e=>q<|.inl<|.inr<|.inr<|.inr<|.inr<|.inr<|.inl e
 .have X:bZ (x::r)=([c],r):=by have m:=wk h;simp only[mem_cons,Prod.mk.injEq,not_mem_nil,or_false]at m;rcases m with⟨rfl,rfl⟩|⟨rfl,rfl⟩|⟨rfl,rfl⟩|⟨rfl,rfl⟩|⟨rfl,rfl⟩<;>rfl
  show bare (92::x::r)=_
  (rw[kb];refine Z X ?_);rfl
theorem yp{r}(X:Tail r)(Y):∀s:aa,bare (eg Y s++r)=(s,r):=by
 intro s;induction s with
 |nil=>exact ym X
 |cons c s ab=>
  have:eg Y (c::s)=ez c Y++eg Y s:=rfl
  (refine Z this ?_;rw[append_assoc,Jl,ab])
theorem s9{c}{s:aa}(Y:b9 c=false)(X:c≠123)(W:c≠34):cS (c::s)=.ok (some<|bare<|c::s):=by unfold cS;rw[k9];rw[if_neg<|by simp[Y]];dsimp only;exact Z (if_neg X)<|Z (if_neg W) rfl
theorem Jm(c)(Y)(h:c=123->Y=true):bs fun x s=>cQ (ez c Y=x::s) (b9 x=false) (x≠123) (x≠34):=by
 unfold ez;rcases X:kd c with _|x
 .dsimp only;by_cases q:(c=93\/c=91\/c=36\/c=59\/c=32\/c=92\/c=34)\/(Y=true/\(c=123\/c=125));refine Z (if_pos q) ?_;exact⟨92,_,rfl,by decide,by decide,by decide⟩;exact Z (if_neg q)<|⟨c,[],rfl,yo X fun e=>q<|.inl<|.inr<|.inr<|.inr<|.inr<|.inl e,fun e=>q<|.inr ⟨h e,.inl e⟩,fun e=>q<|.inl<|.inr<|.inr<|.inr<|.inr<|.inr<|.inr e⟩
 .exact⟨92,_,rfl,by decide,by decide,by decide⟩
theorem yq(e)(X){r}(N:Tail r):cS (quote e X++r)=.ok (some (e,r)):=by
 have W:(e=[]\/cP fun b R Q=>(ch e 0 b R Q).1≠2)->cS ([123]++e++[125]++r)=.ok (some (e,r)):=by
  intro h;have J:dd 1 (e++125::r)=some e.length:=by
   rcases h with rfl|⟨b,R,Q,h⟩
   .rw[nil_append,s7,if_pos rfl];rfl
   .exact Jh r e 0 b R Q h
  have:[123]++e++[125]++r=123::(e++125::r):=by simp
  rw[this];unfold cS;rw[k9];rw[if_neg<|by decide];dsimp only;rw[if_pos rfl];unfold hs;rw[J];dsimp only;exact Z (show(e++125::r).drop (e.length+1)=r by simp)<|Z (Je N)<|Z (show(e++125::r).take e.length=e by simp) rfl
 cases e with
 |nil=>exact W<|.inl rfl
 |cons c s=>
  have V:∀Y:Bool,(c=123->Y=true)->cS ((if X&&decide ((c::s).head?=some 35)then[92]else[])++eg Y (c::s)++r)=.ok (some (c::s,r)):=by
   intro Y U;by_cases P:(X&&decide ((c::s).head?=some 35))=true
   .rw[if_pos P];have I:c=35:=by simp at P;exact P.2
    subst I;have C:ez 35 Y=[35]:=by unfold ez;rw[show kd 35=none from rfl];exact(if_neg<|by simp)
    have H:[92]++eg Y (35::s)++r=92::35::(eg Y s++r):=Z (show eg Y (35::s)=ez 35 Y++eg Y s from rfl)<|Z C rfl;rw[H,s9 (by decide) (by decide) (by decide),kb];rw[show bZ (35::(eg Y s++r))=([35],eg Y s++r) from rfl];rw[yp N];rfl
   .rw[if_neg P,nil_append];have H:eg Y (c::s)=ez c Y++eg Y s:=rfl;refine(Jm c Y U).elim fun x t T=>?_;have F:=yp N Y<|c::s;rw[H,T.1]at F⊢;have E:bare (x::(t++eg Y s++r))=(c::s,r):=F;exact Z (s9 T.2 T.3 T.4)<|Z E rfl
  unfold quote;generalize S:ch (c::s) 0 (decide (c=123\/c=34)) (decide (c=123\/c=34)||(X&&decide (c=35))) false=g;have M:dR (c::s) X=if g.1=2 then 2 else if g.2.1 then(if g.2.2.2&&!g.2.2.1 then 3 else 1)else if(X&&decide (c=35))then 1 else 0:=aW S rfl;rw[M];by_cases L:g.1=2;exact Z (if_pos L)<|V true fun O=>rfl
  .rw[if_neg L];have hi:cP fun b R Q=>(ch (c::s) 0 b R Q).1≠2:=⟨_,_,_,Z S L⟩;cases J:g.2.1 with
   |true=>
    rw[if_pos rfl];cases D:(g.2.2.2&&!g.2.2.1)with
    |true=>rw[if_pos rfl];refine V false fun I=>?_;exfalso;subst I;have:=Ji (123::s) 0 (decide (123=123\/123=34)) false;rw[show(decide (123=123\/123=34)||(X&&decide (123=35)))=true by simp]at S;rw[S]at this;rw[this]at D;simp at D
    |false=>exact Z (if_neg<|by decide)<|W<|.inr hi
   |false=>
    cases P:(X&&decide (c=35))with
    |true=>exact Z (if_pos rfl)<|W<|.inr hi
    |false=>
     have G:=Jj (c::s) 0 _ _ _ (Z S L)<|Z S J;have K:=G.1;have K:¬(c=123\/c=34):=by simpa using K
     exact Z cons_append<|Z (s9 (G.2 c<|.head _).1 (fun e=>K<|.inl e) fun e=>K<|.inr e)<|aW cons_append<|Z (Jk N G.2) rfl
theorem Jn(l):∀b:Bool,cO (eH [32]<|quoteAll b l)=.ok l:=by
 induction l with
 |nil=>exact fun b=>gT rfl
 |cons e r ab=>
  intro b;cases r with
  |nil=>rw[show eH [32] (quoteAll b [e])=quote e b++[] from(append_nil _).symm];exact(hX<|yq e b<|.inl rfl).trans<|a4<|gT rfl
  |cons f r=>
   rw[show eH [32] (quoteAll b<|e::f::r)=quote e b++(32::eH [32] (quoteAll false<|f::r)) from(md _ _ _ _).trans (append_assoc ..)];rw[hX<|yq e b<|.inr ⟨_,rfl⟩];have W:∀s,cO (32::s)=cO s:=by
    intro s;have X:cS (32::s)=cS s:=by exact Z (show dz (32::s)=dz s from(if_pos s4)) rfl
    rcases Y:cS s with e|o
    .exact Z (kc Y)<|Z (kc<|X.trans Y) rfl
    .
     cases o with
     |none=>exact Z (gT Y)<|Z (gT<|X.trans Y) rfl
     |some p=>exact Z (hX Y) (Z (hX<|X.trans Y) rfl)
   (rw[W];refine Z (ab false) ?_);rfl
theorem jt(l):cO (dm l)=.ok l:=Jn l true
theorem Jo:∀(d Y:bk),((Y++d).map (·.1)).Nodup->fA Y (d6 d)=Y++d:=by
 intro d;induction d with
 |nil=>intro Y O;exact(append_nil Y).symm
 |cons pp r ab=>
  obtain⟨k,v⟩:=pp;intro Y aC;have X:k∉Y.map (·.1):=fun h=>by rw[map_append,nodup_append]at aC;exact aC.2.2 k h k (by simp) rfl
  have W:put k v Y=Y++[(k,v)]:=by
   clear aC;induction Y with
   |nil=>rfl
   |cons p Y ab=>obtain⟨a,b⟩:=p;rw[fL];refine Z (if_neg fun e=>X<|by exact aW e<|.head _)<|Z (ab fun h=>X<|.tail _ h) ?_;rfl
  show fA (put k v Y) (d6 r)=_;exact Z W<|(ab (Y++[(k,v)])<|by simpa using aC).trans (append_assoc ..)
theorem ju{d}(aC:(d.map (·.1)).Nodup):a0 (bg d)=.ok d:=by
 unfold a0 bg;rw[jt];dsimp only
 (rw[pi];refine Z (if_neg<|by rw[mul_mod_right];exact Nat.zero_ne_one)<|Z (Jo d []<|by simpa using aC) ?_)
 rfl
theorem pG{d}:bg d=[]↔d=[]:=by
 constructor
 .intro h;have Z:=jt<|d6 d;unfold bg at h;rw[h,gT<|by rfl]at Z;cases d with|nil=>rfl|cons p r=>obtain⟨a,b⟩:=p;simp[sv,sw]at Z
 .intro h;subst h;rfl
noncomputable def fk(n:Nat):aa:=(Nat.toDigits 10 n).map Char.toNat
theorem pH{n}(h:n<10):fk n=[48+n]:=by
 unfold fk;revert n
 decide
theorem ta{n}(h:10<=n):fk n=fk (n/10)++[48+n%10]:=by have X:(Nat.toDigits 10 n)=Nat.toDigits 10 (n/10)++[(n%10).digitChar]:=toDigits_of_base_le (aL) h;have Y:=pH (n:=n%10)<|mod_lt _<|succ_pos _;unfold fk at*;rw[toDigits_of_lt_base<|mod_lt _<|succ_pos _]at Y;exact Z X<|Z map_append<|Z Y rfl
theorem tb{C:Prop}{aq:Type}{a}(h:(none:Option aq)=some a):C:=nomatch h
theorem yr(i:Int):i.toNat<=i.natAbs:=by
 cases i with
 |ofNat n=>exact Nat.le_refl n
 |negSucc n=>exact zero_le _
theorem tc{P:Nat->Prop}(small:∀n,n<10->P n)(big:∀n,10<=n->P (n/10)->P n)(n):P n:=by
 induction n using Nat.strongRecOn with
 |ind n ab=>exact(Nat.lt_or_ge n 10).elim (small n) fun q=>big n q<|ab _<|div_lt_self (Nat.lt_of_lt_of_le (succ_pos _) q)<|aL
theorem lM{m}(h:m<10):(48<=48+m/\48+m<=57)/\dig (48+m)=(m:Int)/\¬(dig (48+m)<0\/10<=dig (48+m)):=by
 have b:48<=48+m/\48+m<=57:=⟨le_add_right _ _,Nat.add_le_add_left (le_of_lt_succ h) 48⟩;have e:dig (48+m)=(m:Int):=by unfold dig;rw[if_pos b,Int.natCast_add,Int.add_comm];exact Int.add_sub_cancel _ _
 exact Z e ⟨b,rfl,fun q=>q.elim (Int.not_lt.mpr<|Int.natCast_nonneg m) fun q=>Nat.not_le_of_lt h<|Int.ofNat_le.mp q⟩
theorem td(n):n%10<10:=mod_lt n<|succ_pos _
theorem te(n):fk n≠[]/\∀c∈fk n,48<=c/\c<=57:=by
 induction n using tc with
 |small n q=>exact Z (pH q) ⟨cons_ne_nil _ _,fun c Y=>mem_singleton.mp Y▸(lM q).1⟩
 |big n q ab=>exact Z (ta q) ⟨fun e=>cons_ne_nil _ _ (append_eq_nil_iff.mp e).2,fun c Y=>(mem_append.mp Y).elim (ab.2 c) fun g=>mem_singleton.mp g▸(lM<|td n).1⟩
theorem Jp(b)(c)(Z:¬(dig c<0\/b<=dig c))(s):∀(v w:Int),iz b s v=some w->iz b (s++[c]) v=some (w*b+dig c):=by
 induction s with
 |nil=>intro v w h;exact(if_neg Z).trans (a2 h▸rfl)
 |cons x r ab=>intro v w h;by_cases q:dig x<0\/b<=dig x;exact tb<|(if_pos q).symm.trans h;exact(if_neg q).trans<|ab _ _<|(if_neg q).symm.trans h
theorem Jq(n):iz 10 (fk n) 0=some (n:Int):=by
 induction n using tc with
 |small n q=>exact Z (pH q)<|(if_neg (lM q).2.2).trans<|bn some<|(Int.zero_add _).trans (lM q).2.1
 |big n q ab=>exact Z (ta q)<|Z (Jp 10 _ (lM<|td n).2.2 _ 0 _ ab)<|Z ((lM<|td n).2.1)<|bn some<|bn Int.ofNat<|div_add_mod' n 10
theorem ys(n):fx (fk n) 10=some (n:Int):=by exact(if_neg (te n).1).trans<|Jq n
theorem nD{c}(h:48<=c/\c<=57){k:Nat}(e:(Nat.ble k 47||Nat.ble 58 k)=true):c≠k:=fun q=>by subst q;exact(Bool.or_eq_true_iff.mp e).elim (fun e=>absurd (bp h.1<|a1 e)<|aU) fun e=>absurd (bp (a1 e) h.2)<|aU
theorem Jr{c}(h:48<=c/\c<=57):baseOf c=0:=by have k {a b:Nat} (Z:(Nat.ble a 47||Nat.ble 58 a)=true) (Y:(Nat.ble b 47||Nat.ble 58 b)=true):¬(c=a\/c=b):=fun q=>q.elim (nD h Z)<|nD h Y;exact(if_neg<|k rfl rfl).trans<|(if_neg<|k rfl rfl).trans<|(if_neg<|k rfl rfl).trans<|if_neg<|k rfl rfl
theorem yt(neg){t}(h:∀c∈t,48<=c/\c<=57):hr neg t=(fx t 10).map fun v=>if neg then-v else v:=by
 cases t with
 |nil=>rfl
 |cons a t=>
  cases t with
  |nil=>rfl
  |cons m r=>exact bn (Option.map _)<|if_neg fun q=>absurd (Jr (h m<|.tail _<|.head _)▸q.2.2)<|aU
theorem yu{t}(h:∀c∈t,b9 c=false):trim t=t:=by
 have Y:∀s:aa,(∀c∈s,b9 c=false)->dz s=s:=by
  intro s X;cases s with
  |nil=>rfl
  |cons c r=>exact if_neg (by exact Z (X c<|.head _)<|aU)
 unfold trim;rw[Y t h,Y t.reverse (fun c W=>h c<|mem_reverse.mp W),reverse_reverse]
theorem yv(i):ci i=if 0<=i then fk i.toNat else 45::fk (-i).toNat:=by show(PySem.Str.ofString<|toString i).cps.toList=_;rw[PySem.Str.ofString_eq_toList];show((Int.repr i).toList.map Char.toNat)=_;rw[Int.repr_eq_if];split;exact a4 String.toList_ofList;exact Z String.toList_append<|Z String.toList_ofList<|Z String.toList_ofList rfl
theorem yw{c}(h:48<=c/\c<=57):b9 c=false:=eq_false_of_ne_true fun q=>by rcases(yn c).mp q with e|e|e|e|e|e<;>exact nD h rfl e
theorem fY(i):wholeOf (ci i)=some i:=by
 rw[yv];unfold wholeOf;by_cases aj:0<=i
 .rw[if_pos aj];have d:=te i.toNat;have Y:=ys i.toNat;rw[Int.toNat_of_nonneg aj]at Y;rw[yu fun c X=>yw<|d.2 c X];generalize fk i.toNat=t at d Y;cases t with|nil=>exact absurd rfl d.1|cons c r=>have X:=d.2 c<|.head _;dsimp only;exact Z (if_neg<|nD X rfl)<|Z (if_neg<|nD X rfl)<|Z (yt false d.2)<|Z Y rfl
 .rw[if_neg aj];have d:=te (-i).toNat;have Y:=ys (-i).toNat;rw[Int.toNat_of_nonneg<|Int.neg_nonneg_of_nonpos<|Int.le_of_lt<|Int.not_le.mp aj]at Y;rw[yu (t:=45::fk (-i).toNat) fun c X=>(mem_cons.mp X).elim (fun e=>e▸rfl) fun e=>yw<|d.2 c e];dsimp only;exact Z (if_pos rfl)<|Z (yt true d.2)<|Z Y<|bn some<|Int.neg_neg i
theorem Js{b}(Y:b.natAbs<=36)(s):∀(v w:Int)(M:Nat),v.natAbs+1<=M->iz b s v=some w->w.natAbs+1<=M*36^s.length:=by
 induction s with
 |nil=>intro v w M Z h;exact aW (a2 h)<|bp Z<|Nat.le_of_eq (Nat.mul_one M).symm
 |cons c r ab=>intro v w M Z h;by_cases q:dig c<0\/b<=dig c;exact tb<|(if_pos q).symm.trans h;have U:(dig c).natAbs+1<=b.natAbs:=Int.natAbs_lt_natAbs_of_nonneg_of_lt (Int.not_lt.mp fun g=>q<|.inl g)<|Int.not_le.mp fun g=>q<|.inr g;have:=ab _ w (M*36) (bp (succ_le_succ<|Int.natAbs_add_le _ _) (by rw[Int.natAbs_mul];exact bp (add_le_add (mul_le_mul_left _ Y)<|bp U Y)<|bp (Nat.le_of_eq (succ_mul _ _).symm)<|mul_le_mul_right 36 Z)) ((if_neg q).symm.trans h);rw[length_cons,pow_succ',<-Nat.mul_assoc];exact this
theorem tf{t b w}(Z:b.natAbs<=36)(h:fx t b=some w):w.natAbs<36^t.length:=by by_cases q:t=[];exact tb<|(if_pos q).symm.trans h;exact bp (Js Z t 0 w 1 (Nat.le_refl _)<|(if_neg q).symm.trans h)<|Nat.le_of_eq<|Nat.one_mul _
theorem Jt(m):(baseOf m).natAbs<=36:=by unfold baseOf;repeat' split<;>try exact aL
theorem nE{a b}(h:a<=b):36^a<=36^b:=Nat.pow_le_pow_right (succ_pos _) h
set_option tactic.hygienic true in
theorem pI{neg t w}(h:hr neg t=some w):w.natAbs<36^t.length:=by
 obtain⟨v,Z,Y⟩:=Option.map_eq_some_iff.mp h;rw[show w.natAbs=v.natAbs by subst Y;cases neg;rfl;exact Int.natAbs_neg v];split at Z
 .rename_i m r;split at Z;exact Nat.lt_of_lt_of_le (tf (Jt m) Z)<|nE<|le_succ_of_le<|le_succ _;exact tf (aL) Z
 .exact tf (aL) Z
theorem Ju(t):(trim t).length<=t.length:=by exact Z length_reverse<|bp (o1 (dz t).reverse).length_le<|bp (Nat.le_of_eq length_reverse) (o1 t).length_le
theorem tg{t w}(h:wholeOf t=some w):w.natAbs<36^t.length:=by
 have Z:=Ju t;unfold wholeOf at h;rcases q:trim t with _|⟨c,r⟩<;>rw[q]at h Z
 .exact Nat.lt_of_lt_of_le (pI h)<|nE Z
 .dsimp only at h;by_cases Y:c=45;exact Nat.lt_of_lt_of_le (pI<|(if_pos Y).symm.trans h)<|nE<|le_of_succ_le Z;rw[if_neg Y]at h;by_cases X:c=43;exact Nat.lt_of_lt_of_le (pI<|(if_pos X).symm.trans h)<|nE<|le_of_succ_le Z;exact Nat.lt_of_lt_of_le (pI<|(if_neg X).symm.trans h)<|nE Z
theorem Jv(n):∀(k:Nat),n<10^(k+1)->(fk n).length<=k+1:=by
 induction n using tc with
 |small n q=>intro k h;exact Z (pH q)<|succ_le_succ<|zero_le _
 |big n q ab=>
  intro k h;rw[ta q,length_append];cases k with
  |zero=>exact absurd h<|Nat.not_lt_of_le q
  |succ k=>exact succ_le_succ<|ab k<|Nat.div_lt_of_lt_mul<|by rw[Nat.mul_comm];exact h
theorem lN{i}(h:i.natAbs<10^250):(ci i).length<=251:=by have k {j:Int} (e:j.toNat<=i.natAbs):(fk j.toNat).length<=250:=Jv _ 249<|Nat.lt_of_le_of_lt e h;rw[yv];by_cases aj:0<=i;exact Z (if_pos aj)<|le_succ_of_le<|k<|yr i;exact Z (if_neg aj)<|succ_le_succ<|k<|bp (yr<|-i)<|Nat.le_of_eq<|Int.natAbs_neg i
theorem log2_small{n}(h:n<10^250):n.log2<1920:=by by_cases q:n=0;subst q;exact succ_pos _;exact(log2_lt q).mpr<|Nat.lt_of_lt_of_le h<|by decide+kernel
theorem yx{x y:Int}(Z:x.natAbs<=10^33)(Y:y.natAbs<=10^33):(x+y).natAbs<=10^34:=bp (Int.natAbs_add_le x y)<|bp (add_le_add Z Y)<|aL
theorem jv{aq}(k)(v:aq)(d):aH k (put k v d)=some v:=by rw[lD,if_pos rfl]
theorem lO{aq}(k)(v w):∀d:List (aa×aq),put k w (put k v d)=put k w d:=by
 intro d;induction d with
 |nil=>exact if_pos rfl
 |cons pp r ab=>
  obtain⟨a,b⟩:=pp;by_cases h:a=k
  .rw[fL,fL,if_pos h,if_pos h,fL,if_pos h]
  .rw[fL,fL,if_neg h,if_neg h,fL,if_neg h,ab]
theorem Jw{t k a ad e}(h:dW t k [a]=.error e):dW t k ad=.error e:=by
 unfold dW at*;rcases U:a0 t with e|d
 .rw[U]at h;exact h
 .rw[U]at h;trivial
theorem Jx{t k a b r}(h:dW t k [a]=.ok r):∃Z,dW r k [b]=.ok Z/\dW t k [a,b]=.ok Z:=by
 unfold dW at*;rcases U:a0 t with e|d
 .rw[U]at h;trivial
 .
  rw[U]at h;obtain rfl:=Except.ok.inj h;have aC:=ek (k:=k) (v:=(aH k d).getD []++[a].flatten)<|cG U;rw[ju aC];refine⟨_,rfl,?_⟩;dsimp only;rw[jv,lO];simp[Except.map]
theorem Jy{t k a r}(h:dW t k [a]=.ok r):r.length<=10*t.length+2*(k.length+a.length)+8:=by
 unfold dW at h;rcases U:a0 t with e|d
 .rw[U]at h;trivial
 .
  rw[U]at h;obtain rfl:=Except.ok.inj h;have Y:=iF<|put k ((aH k d).getD []++[a].flatten) d;have Z:=e0 k ((aH k d).getD []++[a].flatten) d;have X:=cH U;have W:((aH k d).getD []).length<=t.length:=by
   rcases q:aH k d with _|v
   .exact zero_le _
   .exact gz U q
  have V:([a].flatten).length=a.length:=length_append;rw[length_append,V]at Z;show(bg<|put k ((aH k d).getD []++[a].flatten) d).length<=_;exact((gM 0x182081030c0d908108085420461409904844080801021010a830a04d850469008104) Y Z X W)
theorem Jz{t k a ad e}(h:df t k [a]=.error e):df t k ad=.error e:=by
 unfold df at*;rcases U:a0 t with e|d
 .rw[U]at h;exact h
 .
  rw[U]at h;dsimp only at h⊢;rcases Z:aH k d with _|u
  .rw[Z]at h;trivial
  .
   rw[Z]at h;dsimp only at h⊢;rcases Y:cO u with e|l
   .rw[Y]at h;exact h
   .rw[Y]at h;trivial
theorem JA{t k a b r}(h:df t k [a]=.ok r):∃Z,df r k [b]=.ok Z/\df t k [a,b]=.ok Z:=by
 unfold df at*;rcases U:a0 t with e|d
 .rw[U]at h;trivial
 .
  rw[U]at h;dsimp only at h⊢;rcases Y:aH k d with _|u
  .
   rw[Y]at h;obtain rfl:=Except.ok.inj h;rw[ju<|ek<|cG U];dsimp only;rw[jv];dsimp only;rw[jt];dsimp only;rw[lO];exact⟨_,rfl,rfl⟩
  .
   rw[Y]at h;dsimp only at h⊢;rcases X:cO u with e|l
   .rw[X]at h;trivial
   .
    rw[X]at h;obtain rfl:=Except.ok.inj h;rw[ju<|ek<|cG U];dsimp only;rw[jv];dsimp only;rw[jt];dsimp only;rw[lO];exact⟨_,rfl,by simp⟩
theorem JB{t k a r}(h:df t k [a]=.ok r):r.length<=30*t.length+2*k.length+4*a.length+100:=by
 unfold df at h;rcases U:a0 t with e|d
 .rw[U]at h;trivial
 .
  rw[U]at h;dsimp only at h;have T:=cH U;rcases Y:aH k d with _|u
  .
   rw[Y]at h;obtain rfl:=Except.ok.inj h;have X:=iF<|put k (dm [a]) d;have W:=e0 k (dm [a]) d;have Z:=lC [a];exact((gM 0xc116102694408202150814098048c408182102023036020432072c20368204c4782b49108104) T X W Z)
  .
   rw[Y]at h;dsimp only at h;rcases V:cO u with e|l
   .rw[V]at h;trivial
   .
    rw[V]at h;obtain rfl:=Except.ok.inj h;have X:=iF<|put k (dm<|l++[a]) d;have W:=e0 k (dm<|l++[a]) d;have Z:=lC<|l++[a];have S:=lA V;have R:=gz U Y;simp[ph,na]at Z;have Q:b3 []=0:=rfl;exact((Ab 0xd080ca04c05827424260a04d2881008714101c40c0c1c3080c202150814098048c408182102023036020432073220368204c4782b49108108) T X W S.1 S.2 R Z Q)
theorem JC{t k x y e}(h:cJ t k (ci x)=.error e):cJ t k (ci y)=.error e:=by
 unfold cJ at*;rcases U:a0 t with e|d
 .rw[U]at h;exact h
 .
  rw[U]at h;dsimp only at h⊢;rcases Z:aH k d with _|u
  .rw[Z]at h;dsimp only at h;rw[fY]at h;trivial
  .
   rw[Z]at h;dsimp only at h⊢;rcases Y:wholeOf u with _|o
   .rw[Y]at h;exact h
   .rw[Y]at h;dsimp only at h;rw[fY]at h;trivial
theorem JD{t k r x y}(h:cJ t k (ci x)=.ok r):∃Z,cJ r k (ci y)=.ok Z/\cJ t k (ci<|x+y)=.ok Z:=by
 unfold cJ at*;rcases U:a0 t with e|d
 .rw[U]at h;trivial
 .
  rw[U]at h;dsimp only at h⊢;rcases Y:aH k d with _|u
  .
   rw[Y]at h;dsimp only at h⊢;rw[fY]at h⊢;obtain rfl:=Except.ok.inj h;rw[ju<|ek<|cG U];dsimp only;rw[jv];dsimp only;rw[fY];dsimp only;rw[fY];dsimp only;rw[lO];exact⟨_,rfl,rfl⟩
  .
   rw[Y]at h;dsimp only at h⊢;rcases X:wholeOf u with _|o
   .rw[X]at h;trivial
   .
    rw[X]at h;dsimp only at h⊢;rw[fY]at h⊢;obtain rfl:=Except.ok.inj h;rw[ju<|ek<|cG U];dsimp only;rw[jv];dsimp only;rw[fY];dsimp only;rw[fY];dsimp only;rw[lO,Int.add_assoc];exact⟨_,rfl,rfl⟩
theorem pJ{o x:Int}(Z:o.natAbs<36^100)(Y:x.natAbs<=10^34):(o+x).natAbs<10^250:=by
 have h:36^100+10^34<=10^250:=by decide+kernel
 exact Nat.lt_of_le_of_lt (Int.natAbs_add_le o x)<|Nat.lt_of_lt_of_le (Nat.add_lt_add_of_lt_of_le Z Y) h
theorem pK{t k x}(Y:t.length<=100)(X:x.natAbs<=10^34):∀d u o i,a0 t=.ok d->aH k d=some u->wholeOf u=some o->wholeOf (ci x)=some i->(o+i).natAbs.log2<1920/\(ci<|o+i).length<=100000:=by intro d u o i U W V aj;rw[fY]at aj;obtain rfl:=a2 aj;have T:=tg V;have S:=gz U W;have R:36^u.length<=36^100:=Nat.pow_le_pow_right (succ_pos _)<|(az 0x8810c81c80810c81c888102) Y S;have Z:=pJ (x:=x) (Nat.lt_of_lt_of_le T R) X;exact⟨log2_small Z,by have:=lN Z;exact af this⟩
theorem JE{t k r x y}(P:t.length<=100)(O:x.natAbs<=10^33)(N:y.natAbs<=10^33)(h:cJ t k (ci x)=.ok r):∀d u o i,a0 r=.ok d->aH k d=some u->wholeOf u=some o->wholeOf (ci y)=some i->(o+i).natAbs.log2<1920/\(ci<|o+i).length<=100000:=by
 intro K J o' I Z Y X W;rw[fY]at W;obtain rfl:=a2 W;have V:(x+y).natAbs<=10^34:=yx O N;have fin:o'=x\/∃o:Int,o.natAbs<36^100/\o'=o+x:=by
  unfold cJ at h;rcases U:a0 t with e|d
  .rw[U]at h;trivial
  .
   rw[U]at h;dsimp only at h;rcases T:aH k d with _|u
   .
    rw[T]at h;dsimp only at h;rw[fY]at h;obtain rfl:=Except.ok.inj h;rw[ju<|ek<|cG U]at Z;obtain rfl:=Except.ok.inj Z;rw[jv]at Y;obtain rfl:=a2 Y;rw[fY]at X;obtain rfl:=a2 X;exact .inl rfl
   .
    rw[T]at h;dsimp only at h;rcases S:wholeOf u with _|o
    .rw[S]at h;trivial
    .
     rw[S]at h;dsimp only at h;rw[fY]at h;obtain rfl:=Except.ok.inj h;rw[ju<|ek<|cG U]at Z;obtain rfl:=Except.ok.inj Z;rw[jv]at Y;obtain rfl:=a2 Y;rw[fY]at X;obtain rfl:=a2 X;have R:=tg S;have M:=gz U T;have L:36^u.length<=36^100:=Nat.pow_le_pow_right (succ_pos _)<|(az 0x8810c81c80810c81c888102) P M;exact .inr ⟨o,Nat.lt_of_lt_of_le R L,rfl⟩
 have Q:(o'+y).natAbs<10^250:=by
  rcases fin with rfl|⟨o,R,rfl⟩
  .have:=pJ (o:=0) (x:=o'+y) (by decide+kernel) V;simpa using this
  .rw[Int.add_assoc];exact pJ R V
 exact⟨log2_small Q,by have:=lN Q;exact af this⟩
set_option tactic.hygienic true in
theorem JF{t k b r}(R:b.length<=1000)(W:t.length<=100)(V:k.length<=1000)(aj:∀d u o i,a0 t=.ok d->aH k d=some u->wholeOf u=some o->wholeOf b=some i->(o+i).natAbs.log2<1920/\(ci<|o+i).length<=10000)(h:cJ t k b=.ok r):r.length<=100000:=by
 unfold cJ at h;rcases U:a0 t with e|d
 .rw[U]at h;trivial
 .
  rw[U]at h;dsimp only at h;have T:=cH U;rcases Z:aH k d with _|u
  .
   rw[Z]at h;dsimp only at h;split at h;trivial;obtain rfl:=Except.ok.inj h;have Y:=iF<|put k b d;have X:=e0 k b d;exact((fK 0x8084010502661251020a1040808c0d98810fa05121020c81c88c0c3e8144040830d4044a08106) R W V T Y X)
  .
   rw[Z]at h;dsimp only at h;split at h;trivial
   .rename_i o Q;split at h;trivial;rename_i i S;obtain rfl:=Except.ok.inj h;have Y:=iF<|put k (ci<|o+i) d;have X:=e0 k (ci<|o+i) d;have P:=(aj d u o i U Z Q S).2;exact((fK 0x9c407151020808540850264124102080c40800c0d90810fa05111020c81c80c0c30d4044988106) W V T Y X P)
section
open PySem
def hG(D:aa)(h:ar)(a:Nat)(R:Rs)(Z:aa):Prop:=∃g,Loc D h a (.an [.Y g,.S Z])/\dC D h g R
theorem hG.cv{D h Z Y a R X}(x:hG D h a R X)(s:au D h Z Y):hG Z Y a R X:=let⟨g,p,q⟩:=x;⟨g,s.loc p,q.cv s⟩
theorem hG.dat{D h a R Z}(x:hG D h a R Z):Mine.Internal.dat 4 h (.Y a)=some (lL R Z):=let⟨_,p,q⟩:=x;nC p q
section
variable{C:eW}{ax:Nat->Option (List V)}{n:Nat}{U:Option Nat}{P:a3 V}{E:a3 Nat}{h:ar}{A:fh}{aY:Int}{M:cr}{m a8:Nat}{D:aa}{Q:cr->Prop}{R:Rs}
theorem th(x:aN A 0 M m D h){sub more}{K:V->ar->Prop}(k:∀Z X W,Ext h W->aN A 0 M m D W->Loc D W X (.an [.S sub,.Y Z])->Loc D W Z (.ag more)->K (.Y X) W):cE (.ag more) (fun Z h=>cE (.an [.S sub,Z]) (fun X h=>K X h) h) h:=fun Z U X T=>
 have R:=aw (o:=.ag more) U;have Q:=aw (o:=.an [.S sub,.Y Z]) T
 k Z X _ (R.trans Q) ((x.ext R).ext Q) ((x.ext R).new T) ((au.ext Q).loc<|x.new U)
theorem nF(c:aQ C ax)(z:n<=46){sub more f Z N K}(T:aH sub eO=some (.Y f))(y:cV C A (n+7) f (.S sub::.S bw::more) (setM M bw<|some Z) (m+1) R Q a8)(x:aN A 0 M m D h)(w:m+1<=800000)(L:a8<=800000)(v:more.length<=10000)(u:∀X,Q X->X bw=some N)(k:∀a W P X,Q X->aN A 0 X (a8+1) P W->au D h P W->hG P W a R N->K (.Y a) W):
  cE (.ag more) (fun J h=>cE (.an [.S sub,J]) (fun O h=>cE (.ag [O]) (fun I h=>C (n+1) none (.Y 1003) [.Y A.H,.S Z,I] K E h) h) h) h:=by
 refine th x fun J O e t s1 s r=>?_;intro I U;have V:=aw (o:=.ag [.Y O]) U;refine pC c (am z) T y (s1.ext V) (af w) (af L) (s1.new U) ((au.ext V).loc s) ((au.ext V).loc r) v u fun a q p l j G i F g B=>?_;exact k a p l j G i ((au.ext<|t.trans V).trans F) ⟨q,g,B⟩
theorem yy(c:aQ C ax)(j:n<=46){sub more X f T P L W I K G F}(V:aH sub eO=some (.Y f))(i:cV C A (n+7) f (.S sub::.S bw::more) (setM M bw<|some W) (m+1) R Q a8)(B:∀Z,(∃r,R=.ok r)->Q Z->cV C A (n+7) f (.S sub::.S bw::X) Z a8 G F T)(x:aN A 0 M m D h)(g:Loc D h L (.an [.S sub,.Y P]))(e:Loc D h P (.ag more))(d:m+1<=800000)(z:a8<=800000)(y:T<=800000)(w:a8<=T)(b:more.length<=10000)(v:X.length<=10000)(hQ:∀Z,F Z->Z bw=some I)(u:∀Z er,R=.error er->Q Z->Z bw=some W)(k:∀a O J Z,aN A 0 Z (T+1) J O->au D h J O->hG J O a (pD R G) (stepT R I W)->K (.Y a) O):
  cE (.ag X) (fun P h=>cE (.an [.S sub,P]) (fun bA h=>cE (.ag [.Y L,bA]) (fun t h=>C (n+1) none (.Y 1003) [.Y A.H,.S W,t] K E h) h) h) h:=by
 refine th x fun a0 s h2 q s2 l3 l4=>?_;intro t N;have U:=aw (o:=.ag [.Y L,.Y s]) N;have st:=au.ext (D:=D)<|q.trans U;refine IV c (am j) V V i B (s2.ext U) (af d) ((aF 0x30d400a101021b774050808101) z) (af y) w (s2.new N) (st.loc g) (st.loc e) ((au.ext U).loc l3) ((au.ext U).loc l4) b v hQ u fun a g2 h4 D4 M4 x6 p la l=>?_;exact k a h4 D4 M4 x6 ((au.ext<|q.trans U).trans p) ⟨g2,la,l⟩
theorem yz(c:aQ C ax)(u:n<=46){sub more X f T W L K J I}(P:aH sub eO=some (.Y f))(t:cV C A (n+7) f (.S sub::.S bw::more) (setM M bw<|some W) (m+1) R Q a8)(G:∀Z,(∃r,R=.ok r)->Q Z->cV C A (n+7) f (.S sub::.S bw::X) Z a8 J I T)(x:aN A 0 M m D h)(s:m+1<=800000)(F:a8<=800000)(B:T<=800000)(z:a8<=T)(q:more.length<=10000)(w:X.length<=10000)(p:∀Z,I Z->Z bw=some L)(v:∀Z o,R=.error o->Q Z->Z bw=some W)(k:∀a V U Z,aN A 0 Z (T+1) U V->au D h U V->hG U V a (pD R J) (stepT R L W)->K (.Y a) V):
  cE (.ag more) (fun N h=>cE (.an [.S sub,N]) (fun l h=>cE (.ag X) (fun N h=>cE (.an [.S sub,N]) (fun bA h=>cE (.ag [l,bA]) (fun j h=>C (n+1) none (.Y 1003) [.Y A.H,.S W,j] K E h) h) h) h) h) h:=
 th x fun O O O i s1 g e=>yy c u P t G s1 g e s F B z q w p v fun a V U Z y st=>k a V U Z y<|(au.ext i).trans st
theorem ti{X F}{V:aa->Rs}{Y}(T:∀e,X=.error e->F=.error e)(S:∀r,X=.ok r->∃U,V r=.ok U/\F=.ok U):pD X (V<|c4 Y X)=F/\stepT X (c4 (c4 Y X)<|V<|c4 Y X) Y=c4 Y F:=by
 cases X with
 |error e=>exact Z (T e rfl) ⟨rfl,rfl⟩
 |ok r=>refine(S r rfl).elim fun U W=>?_;exact Z W.1<|Z W.2 ⟨rfl,rfl⟩
theorem tj{M t}{R:Rs}(h:M bw=some t):fj M bw R bw=some (c4 t R):=by
 cases R with
 |ok r=>rfl
 |error e=>trivial
theorem JG:ci 1=[49]:=by rfl
theorem JH{t x}(Z:t.length<=100)(Y:x.natAbs<=10^34){d k u o i}(U:a0 t=.ok d)(X:aH k d=some u)(W:wholeOf u=some o)(aj:wholeOf (ci x)=some i):(ci<|o+i).length<=10000:=by rw[fY]at aj;obtain rfl:=a2 aj;have V:=tg W;have T:=gz U X;have S:36^u.length<=36^100:=Nat.pow_le_pow_right (succ_pos _)<|(az 0x8810c81c80810c81c888102) Z T;have R:=pJ (x:=x) (Nat.lt_of_lt_of_le V S) Y;have:=lN R;exact af this
theorem JI(c:aQ C ax)(L:n<=44){X one V item W na x y}(hs:aN A 0 M m D h)(T:m<=100000)(K:X.length<=100)(I:one.length<=100)(w:V.length<=100)(s:item.length<=100)(h4:W.length<=100)(F:x.natAbs<=10^33)(hy:y.natAbs<=10^33)(ac:Loc D h na (.ag [.ae x,.ae y]))(k:∀h' D' N,aN A 0 N (m+100) D' h'->au D h D' h'->P (.aP true) h'):C n none (.Y 1031) [.Y A.H,.S X,.S one,.S V,.S item,.S W,.Y na] P E h:=by
 have q:(x+y).natAbs<=10^34:=yx F hy;have ar:10^34<10^250:=by decide+kernel
 have mK:=lN (i:=x)<|iX F rfl;have ly:=lN (i:=y)<|iX hy rfl;have ah:=lN (i:=x+y)<|iX q rfl;have gx:x.natAbs.log2<1920:=log2_small<|iX F rfl;have gy:y.natAbs.log2<1920:=log2_small<|iX hy rfl;have ai:(x+y).natAbs.log2<1920:=log2_small<|iX q rfl;refine c.fn rfl (af L) ?_;intro lo a3;have x0:=aw (o:=.ag [.S ic,.S ia]) a3;have s0:=hs.ext x0;have a4:Loc D (h.set lo (.ag [.S ic,.S ia])) lo (.ag [.S ic,.S ia]):=hs.new a3;have ak:au D h D _:=au.ext x0;refine hx (aD) ?_;refine nF (n:=n) (Z:=X) c (af L) (f:=540) (sub:=ic) (more:=[.S one,.S item,.S W]) (N:=c4 X<|dW X one [item,W]) rfl (sY (ad:=[W]) c (am L) (am T) (aL) (t:=X) (by rfl) (af K) (af I)<|Nat.add_le_add_right ((az 0xc81c88810c81c80810c34f91220028102) s h4) 1) s0 (am T) (cW T) (a1) (fun N Q=>Z Q e4) fun av h5 D1 M1 O x1 p o1=>?_;refine yz (n:=n) (W:=X) c (af L) (f:=540) (sub:=ic) (more:=[.S one,.S item]) (X:=[.S one,.S W]) (R:=dW X one [item]) (J:=dW (c4 X<|dW X one [item]) one [W]) (L:=c4 (c4 X<|dW X one [item])<|dW (c4 X<|dW X one [item]) one [W]) (I:=fun N=>N=fj (fj (setM M1 bw<|some X) bw<|dW X one [item]) bw (dW (c4 X<|dW X one [item]) one [W])) rfl (sY (ad:=[]) c (am L) ((aF 0xc350112020436ee80a181302704604804928101) T) (aL) (t:=X) (by rfl) (af K) (af I)<|af s)
  (fun N J Q=>by rw[Q];refine J.elim fun r J=>?_;have G:=Jy J;refine sY (ad:=[]) c (am L) ((aF 0x61a808901021b774050e08c09813823024024928101) T) (aL) e4 ?_ (af I)<|af h4;rw[J];exact((bh 0x808480850260282348c408640e48408320722204190390141030d4044988104) K I s G)) x1 ((aF 0xc350112020430d400a181302704604804928101) T) ((aF 0x61a80890102186a0050e08c09813823024024928101) T) ((aF 0x30d404480810c350028704704604c09c118120124928101) T) (aF 0x182382302604e08c09009249608c09813823024024928100) (a1) (aL) (fun N Q=>Z Q<|tj e4) (fun N er l Q=>Z Q<|Z e4<|Z l rfl) fun ay h6 D2 M2 x2 B o2=>?_
 obtain⟨q1,q2⟩:=ti (Y:=X) (V:=fun t=>dW t one [W]) (fun e=>Jw (ad:=[item,W])) fun r=>Jx (b:=W);rw[q1,q2]at o2;refine⟨_,_,(o1.cv B).dat,o2.dat,d9 _,?_⟩;rw[eb];have aa:au D h D2 h6:=(ak.trans p).trans B;refine⟨((p.trans B).loc a4).2,?_⟩;refine nF (n:=n) (Z:=X) c (af L) (f:=547) (sub:=ia) (more:=[.S one,.S item,.S W]) (N:=c4 X<|df X one [item,W]) rfl (sZ (ad:=[W]) c (am L) ((aF 0x30d404480810dbba028604c09c11c1181302704604804924928101) T) (aL) (t:=X) (by rfl) (af K) (af I)<|Nat.add_le_add_right ((az 0xc81c88810c81c80810c34f91220028102) s h4) 1) x2 ((aF 0x30d404480810c350028604c09c11c1181302704604804924928101) T) ((aF 0x186a0224040861a8014382302604e08e08c09813823024024924928101) T) (a1) (fun N Q=>Z Q e4) fun b0 h7 D3 M3 O x3 al o3=>?_;refine yz (n:=n) (W:=X) c (af L) (f:=547) (sub:=ia) (more:=[.S one,.S item]) (X:=[.S one,.S W]) (R:=df X one [item]) (J:=df (c4 X<|df X one [item]) one [W]) (L:=c4 (c4 X<|df X one [item])<|df (c4 X<|df X one [item]) one [W]) (I:=fun N=>N=fj (fj (setM M3 bw<|some X) bw<|df X one [item]) bw (df (c4 X<|df X one [item]) one [W])) rfl (sZ (ad:=[]) c (am L) ((aF 0x186a022404086ddd014302604e08c0981382382302604e08c0900924924928101) T) (aL) (t:=X) (by rfl) (af K) (af I)<|af s)
  (fun N J Q=>by rw[Q];refine J.elim fun r J=>?_;have G:=JB J;refine sZ (ad:=[]) c (am L) ((aF 0xc350112020436ee80a1c1181302704604c09c11c1181302704604804924924928101) T) (aL) e4 ?_ (af I)<|af h4;rw[J];exact((bh 0x640e48406c440980f0569231021903921018640e444083207203c1430d4044988104) K I s G)) x3 ((aF 0x186a0224040861a8014302604e08c0981382382302604e08c0900924924928101) T) ((aF 0xc350112020430d400a1c1181302704604c09c11c1181302704604804924924928101) T) ((aF 0x61a80890102186a0050e08e08c0981382302604e08e08c09813823024024924924928101) T) (aF 0x608e08c0981382302604e08e08c0981382302402492492492c1181302704604c09c11c1181302704604804924924928100) (a1) (aL) (fun N Q=>Z Q<|tj e4) (fun N er l Q=>Z Q<|Z e4<|Z l rfl) fun b1 h8 D4 M4 x4 a5 o4=>?_
 obtain⟨q3,q4⟩:=ti (Y:=X) (V:=fun t=>df t one [W]) (fun e=>Jz (ad:=[item,W])) fun r=>JA (b:=W);rw[q3,q4]at o4;refine⟨_,_,(o3.cv a5).dat,o4.dat,d9 _,?_⟩;rw[eb];have j:au D2 h6 D4 h8:=al.trans a5;refine⟨((p.trans B).trans j|>.loc a4).2,?_⟩;have g:au D h D4 h8:=aa.trans j;have a:=g.loc ac;refine bj a.2 (v:=.ae x) rfl<|bj a.2 (v:=.ae y) rfl<|c.ll ai<|nF (n:=n) (Z:=X) c (af L) (f:=554) (sub:=gh) (more:=[.S V,.S<|ci<|x+y]) (N:=c4 X<|cJ X V<|ci<|x+y) rfl (nA c (am L) ((aF 0x61a808901021b774050c0981382382302604e08c0981382382302604e08c0900924924924928101) T) (.inr rfl) (aL) (t:=X) (by rfl) (af K) (af w) (af ah)<|pK K q) x4 ((aF 0x61a80890102186a0050c0981382382302604e08c0981382382302604e08c0900924924924928101) T) ((aF 0x30d404480810c350028704604c09c11c1181302704604c09c11c1181302704604804924924924928101) T) (a1) (fun N Q=>Z Q e4) fun b2 h9 D5 M5 O x5 a6 o5=>?_;have a0:=a6.loc a;refine bj a0.2 (v:=.ae x) rfl<|c.ll gx ?_;intro mq a7 tq a8;have z1:=aw (o:=.ag [.S V,.S<|ci x]) a7;have z2:=aw (o:=.an [.S gh,.Y mq]) a8;refine bj ((z1.trans z2) _ _ a0.2) (v:=.ae y) rfl<|c.ll gy<|yy (n:=n) (W:=X) c (af L) (f:=554) (sub:=gh) (more:=[.S V,.S<|ci x]) (X:=[.S V,.S<|ci y]) (R:=cJ X V<|ci x) (G:=cJ (c4 X<|cJ X V<|ci x) V<|ci y) (I:=c4 (c4 X<|cJ X V<|ci x)<|cJ (c4 X<|cJ X V<|ci x) V<|ci y) (F:=fun N=>N=fj (fj (setM M5 bw<|some X) bw<|cJ X V<|ci x) bw (cJ (c4 X<|cJ X V<|ci x) V<|ci y)) rfl (nA c (am L) ((aF 0x30d404480810dbba028604c09c1181302704704604c09c1181302704704604c09c118120124924924924928101) T) (.inr rfl) (aL) (t:=X) (by rfl) (af K) (af w) (af mK)<|pK K<|af F)
  (fun N J Q=>by
   rw[Q];refine J.elim fun r J=>?_;have G:=JF (af mK) K (af w) (fun d u o i U G ho aj=>by have:=pK K (x:=x) (af F) d u o i U G ho aj;exact⟨this.1,JH K (af F) U G ho aj⟩) J;refine nA c (am L) ((aF 0x186a022404086ddd014382302604e08c0981382382302604e08c0981382382302604e08c0900924924924924928101) T) (.inr rfl) (aL) e4 ?_ (af w) (af ly) ?_;rw[J];exact G
   .exact Z J<|JE K F hy J) ((x5.ext z1).ext z2) ((x5.ext z1).new a8) ((au.ext z2).loc<|x5.new a7) ((aF 0x30d404480810c350028604c09c1181302704704604c09c1181302704704604c09c118120124924924924928101) T) ((aF 0x186a0224040861a8014382302604e08c0981382382302604e08c0981382382302604e08c0900924924924924928101) T) ((aF 0xc350112020430d400a1c11c1181302704604c09c11c1181302704604c09c11c1181302704604804924924924924928101) T) (aF 0x182382302604e08c0981382382302604e08c0981382382302604e08c090092492492492492582302604e08c0981382382302604e08c0981382382302604e08c0900924924924924928100) (a1) (aL) (fun N Q=>Z Q<|tj e4) (fun N er l Q=>Z Q<|Z e4<|Z l rfl) fun b3 ao D6 M6 x6 z o6=>?_
 have z:=(au.ext<|z1.trans z2).trans z;obtain⟨q5,q6⟩:=ti (Y:=X) (V:=fun t=>cJ t V<|ci y) (fun e=>JC (y:=x+y)) fun r=>JD (y:=y);rw[q5,q6]at o6;refine⟨_,_,(o5.cv z).dat,o6.dat,d9 _,?_⟩;rw[eb];have ab:au D h D6 ao:=(g.trans a6).trans z;have a2:=pK (k:=V) (x:=1) K<|a1;rw[JG]at a2;refine nF (n:=n) (Z:=X) c (af L) (f:=554) (sub:=gh) (more:=[.S V]) (N:=c4 X<|cJ X V [49]) rfl (nA c (am L) ((aF 0xc350112020436ee80a181302704704604c09c1181302704704604c09c1181302704704604c09c118120124924924924924928101) T) (.inl ⟨rfl,rfl⟩) (aL) (t:=X) (by rfl) (af K) (af w) (succ_pos _) a2) x6 ((aF 0xc350112020430d400a181302704704604c09c1181302704704604c09c1181302704704604c09c118120124924924924924928101) T) ((aF 0x61a80890102186a0050e08c0981382382302604e08c0981382382302604e08c0981382382302604e08c0900924924924924924928101) T) (succ_pos _) (fun N Q=>Z Q e4) fun b4 as D7 M7 O x7 ap o7=>?_;refine nF (n:=n) (Z:=X) c (af L) (f:=554) (sub:=gh) (more:=[.S V,.S [49]]) (N:=c4 X<|cJ X V [49]) rfl (nA c (am L) ((aF 0x61a808901021b774050c0981382302604e08e08c0981382302604e08e08c0981382302604e08e08c09813823024024924924924924924928101) T) (.inr rfl) (aL) (t:=X) (by rfl) (af K) (af w) (succ_pos _) a2) x7 ((aF 0x61a80890102186a0050c0981382302604e08e08c0981382302604e08e08c0981382302604e08e08c09813823024024924924924924924928101) T) ((aF 0x30d404480810c350028704604c09c1181302704704604c09c1181302704704604c09c1181302704704604c09c118120124924924924924924928101) T) (aL) (fun N Q=>Z Q e4) fun b5 aq D8 M8 O x8 a9 o8=>?_;refine⟨_,_,(o7.cv a9).dat,o8.dat,d9 _,?_⟩;rw[eb];exact k aq D8 M8 (x8.more<|aF 0x640e40281382302604e08c0981382382302604e08c0981382382302604e08c0981382382302604e08c0900924924924924924924928100)<|(ab.trans ap).trans a9
def g2(t Z:aa):Rs:=match a0 t with|.error e=>.error e|.ok d=>match eo d Z with|.error e=>.error e|.ok _=>.ok []
theorem tk:∀(d:bk){Z:aa}{s:bk},a0 Z=.ok s->eo d Z=.ok (if d=[]then Z else bg (putD s d)):=by
 intro d;induction d with
 |nil=>intro Z s h;exact rfl
 |cons pp r ab=>
  obtain⟨k,v⟩:=pp;intro Z s h;have Y:cZ Z k v=.ok (bg (put k v s)):=by exact a4 h
  simp only[eo,Y];rw[ab<|ju<|ek<|cG h];rw[if_neg<|cons_ne_nil _ _];cases r with
  |nil=>rfl
  |cons p r=>exact a4<|if_neg<|cons_ne_nil _ _
theorem yD{d:bk}{Z e}(U:d≠[])(h:a0 Z=.error e):eo d Z=.error e:=by
 cases d with
 |nil=>exact absurd rfl U
 |cons p r=>obtain⟨k,v⟩:=p;simp only[eo,cZ,h,Except.map]
theorem JJ{t Z d pre post W}(T:t.length<=1000)(Y:Z.length<=1000)(U:a0 t=.ok d)(S:d=pre++post)(h:eo pre Z=.ok W):W.length<=100000:=by
 rcases X:a0 Z with e|s
 .
  by_cases q:pre=[];subst q;obtain rfl:=Except.ok.inj h;exact af Y;rw[yD q X]at h;trivial
 .
  rw[tk pre X]at h;obtain rfl:=Except.ok.inj h;split;exact af Y;have R:=iF<|putD s pre;have Q:=sG pre s;have P:=cH X;have V:=cH U;rw[S,xQ]at V;exact((gM 0x606d82850202303682041420462040c10810fa051118187d02880c0c30d4044908106) T Y R Q P V)
theorem ku(c:aQ C ax)(N:n<=46){sub ws f K}(X:aH sub eO=some (.Y f))(L:cV C A (n+6) f (.S sub::ws) M m R Q a8)(x:aN A 0 M m D h)(J:ws.length<=10000)(k:∀t Z W V,Q V->aN A 0 V a8 W Z->au D h W Z->dC W Z t R->K (.Y t) Z):
  cE (.ag<|.S sub::ws) (fun q h=>C (n+1) none (.Y 996) [.Y A.H,q] K E h) h:=by
 intro q U;have T:=aw (o:=.ag<|.S sub::ws) U;refine fX c (am N) X L (x.ext T) (x.new U) (af J) fun t I G F P B O z=>?_;exact k t I G F P B ((au.ext T).trans O) z
theorem JK(c:aQ C ax)(B:n<=60){sub t R}(z:m+10*t.length<=600000)(K:t.length<=1000)(J:M iL=some R)(I:R.length<=1000):cV C A n 589 [.S sub,.S fW,.S t,.S nq] M m (g2 t R) (fun X=>agree gf M X/\∀d V,a0 t=.ok d->eo d R=.ok V->X iL=some V) (m+10*t.length):=by
 intro D h q P E y w v H;refine IL c (af B) y w z J (af K) (fun d pre post V U u W=>JJ K I U u W) (fun d V Q O X U W x st N s=>v [] Q O X (by unfold g2;rw[U];dsimp only;exact Z W rfl) ⟨N,fun d2 L Y T=>by cases U.symm.trans Y;cases W.symm.trans T;exact s⟩ x st) fun e Q O G X r x st N F=>?_;rcases r with U|⟨d,U,W⟩
 .exact H e Q O G X (by unfold g2;exact Z U rfl) ⟨N,fun d2 L Y T=>by cases U.symm.trans Y⟩ x st F
 .exact H e Q O G X (by unfold g2;rw[U];dsimp only;exact Z W rfl) ⟨N,fun d2 L Y T=>by cases U.symm.trans Y;cases W.symm.trans T⟩ x st F
theorem JL(c:aQ C ax)(V:n<=60){sub t}(T:m+10*t.length<=600000)(R:t.length<=1000):cV C A n 596 [.S sub,.S fW,.S t,.S nr] M m (g1 t) (agree gf M) (m+10*t.length):=
 fun D h q P E Q O N L=>IM c (af V) Q O T (af R) (fun d Z Y X U x st W=>N _ Z Y X (by exact a4 U) W x st) fun e Z Y K X U x st W J=>L e Z Y K X (by exact a4 U) W x st J
theorem JM(c:aQ C ax)(V:n<=60){sub t}(T:m+10*t.length<=600000)(R:t.length<=1000):cV C A n 617 [.S sub,.S t,.S iI,.S fW,.S js] M m (g1 t) (agree gf M) (m+10*t.length):=
 fun D h q P E Q O N L=>IS c (af V) Q O T (af R) (fun d Z Y X U x st W=>N _ Z Y X (by exact a4 U) W x st) fun e Z Y K X U x st W J=>L e Z Y K X (by exact a4 U) W x st J
theorem JN{t u Y}(h:mergeF t u=.error Y):Y.msg.length<=1000000:=by
 unfold mergeF at h;rcases q:a0 t with e|d
 .rw[q]at h;obtain rfl:=Except.error.inj h;have:=eQ q;exact af this
 .
  rw[q]at h;rcases Z:a0 u with e|d2
  .rw[Z]at h;obtain rfl:=Except.error.inj h;have:=eQ Z;exact af this
  .rw[Z]at h;trivial
theorem JO(c:aQ C ax)(V:n<=44){W X i}(x:aN A 0 M m D h)(y:m+30*W.length<=100000)(b:W.length<=1000)(h2:X.length<=1000)(hw:dC D h i (g1 W))(k:∀h' D' M',aN A 0 M' (m+30*W.length+10) D' h'->au D h D' h'->P (.aP true) h'):C n none (.Y 1038) [.Y A.H,.S W,.S X,.Y i] P E h:=by
 refine c.fn rfl (af V) ?_;refine x.own rfl (fun O O=>rfl) ?_;refine gD c (am V) x (by exact((az 0xc35011223c15805021e848050808101) y)) fun h1 D1 x1 a1=>?_;have a9:=hw.cv a1;refine ku (n:=n) c (af V) (f:=589) (sub:=kI) (ws:=[.S fW,.S W,.S nq]) rfl (JK (R:=X) c (am V) (by exact((az 0x30d404488f05601408493e0142228238120128101) y)) b (by rfl) h2) x1 (by exact aL) fun g ao D2 M2 hQ x2 a2 T=>?_;have ab:=a9.cv a2;refine ku (n:=n) c (af V) (f:=477) (sub:=lV) (ws:=[.S X,.S W]) rfl ((IW c (am V) (af h2)<|af b).cmd fun er he=>JN he) x2 (by exact aL) fun g3 R N M3 ac B w u=>?_;cases ac;have J:=ab.cv w;have T:=T.cv w;have a8:au D h N R:=(a1.trans a2).trans w;have Q:∀{t:ar}{a:aa}{M4:cr},aN A 0 M4 (m+1+10*W.length+1) a t->au N R a t->run (eh C ax (n+1)) none (cf [.aB (.aA .NotEq (.bW (.k (.Y 996)) [(.x 0),(.ag [(.k (.S jG)),(.k (.S lR)),(.x 1),(.k (.S [103,105,118,101]))])]) (.x 3)) [.ay (.k (.aP false))] [],
  .ay (.aA .Eq (.bW (.k<|.Y 996) [(.x 0),(.ag [(.k<|.S gg),(.x 1),(.k<|.S lU),(.k<|.S lR),(.k<|.S g4)])])<|.x 3)]) (jf P) (jg P) (jh E) [] [some<|.Y A.H,some<|.S W,some<|.S X,some<|.Y i,some<|.Y g,some<|.Y g3] t:=by
  intro t a M4 x4 a3;have ad:=J.cv a3;refine ku (n:=n) c (af V) (f:=596) (sub:=jG) (ws:=[.S fW,.S W,.S nr]) rfl (JL c (am V) (by exact((az 0xc35011223c1580502124f805088a08e0488a08e04804928101) y)) b) x4 (by exact aL) fun g5 h5 D5 M5 ap x5 I r5=>?_;have a5:=ad.cv I;refine⟨_,_,r5.dat (n:=2),a5.dat (n:=2),d9 _,?_⟩;rw[eb];refine ku (n:=n) c (af V) (f:=617) (sub:=gg) (ws:=[.S W,.S iI,.S fW,.S js]) rfl (JM c (am V) (by exact((az 0xc35011223c1580502124f805088a08c4504702445047024024928101) y)) b) x5 (by exact aL) fun g6 h6 D6 M6 aq x6 a6 r6=>?_;have ah:=a5.cv a6;refine⟨_,_,r6.dat (n:=2),ah.dat (n:=2),d9 _,?_⟩;rw[eb];exact k h6 D6 M6 (x6.more<|by exact(az 0xa0844782b00908a08c4504702445047024024928100))<|((a8.trans a3).trans I).trans a6
 rcases U:a0 W with e|d
 .
  have e1:g1 W=.error e:=by exact a4 U
  have L:g2 W X=.error e:=by unfold g2;exact Z U rfl
  have r:=J;rw[e1]at r;rw[L]at T;refine r.elim fun qq ai=>?_;refine cC ai.1.2 (v:=.ae 1) rfl ?_;have G:=J;rw[e1]at G;refine⟨_,_,T.dat (n:=2),G.dat (n:=2),d9 _,?_⟩;rw[eb];exact Q (B.more<|by exact(az qf))<|au.ext Ext.rfl
 .
  have e1:g1 W=.ok (bg d):=by exact a4 U
  have l1:Loc N R i (.an [.ae 0,.S (bg d)]):=by have:=J;rw[e1]at this;exact this
  refine cC l1.2 (v:=.ae 0) rfl ?_;cases p:a0 X with
  |ok s=>
   have L:g2 W X=.ok []:=by unfold g2;rw[U];dsimp only;exact Z (tk d p) rfl
   have e3:mergeF X W=.ok (if d=[]then X else bg (putD s d)):=by unfold mergeF;rw[p];exact Z U rfl
   rw[L]at T;rw[e3]at u;have l3:Loc N R g3 (.an [.ae 0,.S (if d=[]then X else bg (putD s d))]):=u;have a7:=hQ.2 d _ U<|tk d p;refine cC l3.2 (v:=.ae 0) rfl ?_;intro z l;have K:=aw (o:=.an [.ae 0,.S []]) l;have x4:=B.ext K;have lz:dC N (R.set z (.an [.ae 0,.S []])) z (.ok []):=B.new l;refine⟨_,_,(T.cv<|au.ext K).dat (n:=2),lz.dat (n:=2),d9 _,?_⟩;refine x4.own rfl (fun O O=>rfl) ?_;refine fE c (am V) x4 (by exact((az 0x30d404488f056014087a120142228238120128101) y)) (by exact aL) (fun v h5 D5 hv x5 I=>?_) (fun e t a aj=>absurd (aj.symm.trans a7)<|by exact fo);cases hv.symm.trans a7;have j:=(au.ext (D:=N) K).trans I;refine cC (j.loc l3).2 (v:=.S (if d=[]then X else bg (putD s d))) rfl ?_;refine dec_not (fun O=>?_) fun q=>absurd rfl q;exact Q (x5.more<|by exact(az 0x20488a08e04804940911411c0900928100)) j
  |error e=>
   have e3:mergeF X W=.error e:=by unfold mergeF;exact Z p rfl
   rw[e3]at u;have ak:=u;refine ak.elim fun q3 al=>?_;refine cC al.1.2 (v:=.ae 1) rfl ?_;refine cC l1.2 (v:=.S<|bg d) rfl ?_;by_cases F:d=[]
   .have L:g2 W X=.ok []:=by unfold g2;rw[U];subst F;rfl
    rw[L]at T;refine dec_not (fun O=>?_) fun q=>absurd (pG.mpr F) q;intro z l;have K:=aw (o:=.an [.ae 0,.S []]) l;have lz:dC N (R.set z (.an [.ae 0,.S []])) z (.ok []):=B.new l;refine⟨_,_,(T.cv<|au.ext K).dat (n:=2),lz.dat (n:=2),d9 _,?_⟩;exact Q ((B.ext K).more<|by exact(az qf))<|au.ext K
   .have L:g2 W X=.error e:=by unfold g2;rw[U];dsimp only;exact Z (yD F p) rfl
    rw[L]at T;refine dec_not (fun q=>absurd (pG.mp q) F) fun O=>?_;refine⟨_,_,T.dat (n:=2),u.dat (n:=2),d9 _,?_⟩;rw[eb];exact Q (B.more<|by exact(az qf))<|au.ext Ext.rfl
end
end
theorem JP:∀{d:bk}(k:aa),(d.map (·.1)).Nodup->del k d=d.filter fun p=>decide (p.1≠k):=by
 intro d;induction d with
 |nil=>intro k O;exact rfl
 |cons pp r ab=>
  obtain⟨a,b⟩:=pp;intro k aC;have Y:=nodup_cons.mp aC;rw[hd];rw[filter_cons];by_cases h:a=k
  .rw[if_pos h,if_neg<|by simp[h]]
   symm
   apply filter_eq_self.mpr;intro p X;simp only[ne_eq,decide_eq_true_eq];intro e;exact Y.1 (by show a∈_;exact Z h<|aW e<|List.mem_map_of_mem X)
  .exact Z (if_neg h)<|Z (if_pos<|by simp[h])<|Z (ab k Y.2) rfl
theorem yE:∀(ac:List aa){d:bk},(d.map (·.1)).Nodup->iG d ac=d.filter fun p=>decide (p.1∉ac):=by
 intro ac;induction ac with
 |nil=>
  intro d O
  symm
  apply filter_eq_self.mpr;intro p W;rfl
 |cons k ac ab=>intro d aC;have Z:iG d (k::ac)=iG (del k d) ac:=rfl;rw[Z,ab<|nf aC,JP k aC,List.filter_filter];congr 1;funext p;by_cases Y:p.1=k<;>by_cases X:p.1∈ac<;>simp[Y,X]
noncomputable def jw(d:bk)(Z:List aa):List aa:=(d.map (·.1)).filter fun k=>!decide (k∈Z)
def jx(d:bk)(Z:List aa):List aa:=(d.map (·.1)).filter fun k=>!decide ((aH k d).getD []∈Z)
theorem JQ{t d}{Z:List aa}(U:a0 t=.ok d):h5 t (fun k v=>Z.any fun p=>bP p (if h6=dU then v else k))=fg t (jw d ((Z.map fun p=>(d.map (·.1)).filter<|bP p).flatten)):=by
 have aC:=cG U;unfold h5 fg;rw[U];show Except.ok _=Except.ok _;dsimp only;rw[yE _ aC];congr 2;apply filter_congr;intro p T;rw[if_neg<|of_decide_eq_true rfl];have V:p.1∈d.map (·.1):=List.mem_map_of_mem T;have e:(Z.any fun q=>bP q p.1)=decide (p.1∈(Z.map fun q=>(d.map (·.1)).filter (bP q)).flatten):=by rw[Bool.eq_iff_iff];simp only[List.any_eq_true,decide_eq_true_eq,mem_flatten,mem_map];constructor;rintro S;refine S.elim fun q Y=>?_;exact⟨_,⟨q,Y.1,rfl⟩,mem_filter.mpr ⟨V,Y.2⟩⟩;rintro R;refine R.elim fun l X=>?_;refine X.1.elim fun q W=>?_;obtain rfl:=W.2;exact⟨q,W.1,(mem_filter.mp X.2).2⟩
 rw[e];unfold jw;rw[Bool.eq_iff_iff];simp only[decide_eq_true_eq,mem_filter,Bool.not_eq_true',decide_eq_false_iff_not,not_and,Classical.not_not];exact⟨fun h O=>h,fun h=>h V⟩
theorem JR{t d}{Y:List aa}(U:a0 t=.ok d):h5 t (fun k v=>Y.any fun p=>bP p (if dU=dU then v else k))=fg t (jx d ((Y.map fun p=>(d.map (·.2)).filter<|bP p).flatten)):=by
 have aC:=cG U;unfold h5 fg;rw[U];show Except.ok _=Except.ok _;dsimp only;rw[yE _ aC];congr 2;apply filter_congr;intro p T;rw[if_pos rfl];have S:p.1∈d.map (·.1):=List.mem_map_of_mem T;have R:p.2∈d.map (·.2):=List.mem_map_of_mem T;have Q:(aH p.1 d).getD []=p.2:=Z (pj aC T) rfl;have e:(Y.any fun q=>bP q p.2)=decide (p.2∈(Y.map fun q=>(d.map (·.2)).filter (bP q)).flatten):=by rw[Bool.eq_iff_iff];simp only[List.any_eq_true,decide_eq_true_eq,mem_flatten,mem_map];constructor;rintro P;refine P.elim fun q X=>?_;exact⟨_,⟨q,X.1,rfl⟩,mem_filter.mpr ⟨R,X.2⟩⟩;rintro N;refine N.elim fun l W=>?_;refine W.1.elim fun q V=>?_;obtain rfl:=V.2;exact⟨q,V.1,(mem_filter.mp W.2).2⟩
 rw[e];unfold jx;rw[Bool.eq_iff_iff];simp only[decide_eq_true_eq,mem_filter,Bool.not_eq_true',decide_eq_false_iff_not,not_and,Classical.not_not,Q];exact⟨fun h O=>h,fun h=>h S⟩
section
open PySem
theorem yF{L I bb}{l:cc}{K}(J:ar->Prop)(f)(H:∀v h(Q:V->ar->Prop),Q (.S v) h->h0 L Q (some (.S v)::l) h):∀(ad Y:List aa)(h:ar),J h->(∀v∈ad,∀h,J h->∀cy:V->ar->Prop,(∀X,J X->cy (.aP<|f v) X)->h0 I cy (some (.S v)::l) h)->(∀h,J h->dy bb h)->Y.length+ad.length<=16000000->(∀X,J X->K ((Y++ad.filter f).map .S) X)->h1 L (some I) bb l (ad.map .S) (Y.map .S) K h:=by
 intro ad;induction ad with
 |nil=>intro Y h O P U T k;have:=k h O;simp only[filter_nil,append_nil]at this;exact this
 |cons v ad ab=>
  intro Y h O P U T k;simp only[length_cons]at T;refine P v (.head _) h O _ fun X W=>?_;cases G:f v with
  |true=>refine H _ _ _ ⟨U X W,dr<|(az 0x3d09000c181221005021e8480060808101) T,?_⟩;have:=ab (Y++[v]) X W (fun w N=>P w<|.tail _ N) U (Z length_append<|(az 0x3d09000c181221005021e8480060888120128101) T) (fun M R=>by have:=k M R;rw[filter_cons,G,if_pos rfl]at this;simpa using this);simpa using this
  |false=>exact⟨U X W,ab Y X W (fun w N=>P w<|.tail _ N) U ((az 0xf4240030604884014087a120018220028101) T) (fun M R=>by have:=k M R;rw[filter_cons,G,if_neg<|of_decide_eq_true rfl]at this;exact this)⟩
theorem yG(k):∀l:List aa,dh (.S k) (l.map .S)=decide (k∈l):=by
 intro l;induction l with
 |nil=>rfl
 |cons a r ab=>simp only[map_cons,gp,gq,ab];by_cases h:k=a<;>simp[h]
theorem yH(x)(l:List aa):((((V.S x).isStr&&(l.map V.S).all V.isStr)||((V.S x).isInt&&(l.map V.S).all V.isInt))=true):=by exact Bool.or_eq_true_iff.mpr<|.inl<|Bool.and_eq_true_iff.mpr ⟨rfl,List.all_eq_true.mpr fun v Z=>(mem_map.mp Z).elim fun s e=>e.2▸rfl⟩
section
variable{C:eW}{ax:Nat->Option (List V)}{n:Nat}{U:Option Nat}{P:a3 V}{E:a3 Nat}{h:ar}{A:fh}{aY:Int}{M:cr}{m a8:Nat}{D:aa}{Q:cr->Prop}{R:Rs}
theorem pL(c:aQ C ax)(B:n<=46){sub U O ws f b K}(T:aH sub eO=some (.Y f))(z:cV C A (n+6) f (.S sub::ws) M m R Q a8)(x:aN A 0 M m D h)(y:Loc D h b (.ag O))(e:U++O=.S sub::ws)(N:ws.length<=10000)(k:∀t X P L,Q L->aN A 0 L a8 P X->au D h P X->dC P X t R->K (.Y t) X):
  cE (.ag U) (fun w h=>me .Add w (.Y b) (fun q h=>C (n+1) none (.Y 996) [.Y A.H,q] K E h) h) h:=by
 intro bq J;have W:=aw (o:=.ag U) J;have Z:=bn List.length e;rw[length_append,length_cons]at Z;refine add_list (aD) (W _ _ y.2) ((aT 0x10240220214094e20388081080000019240428102) N Z) ?_;rw[e];intro eq V;have I:=aw (o:=.ag<|.S sub::ws) V;refine fX c (am B) T z ((x.ext W).ext I) ((x.ext W).new V) (af N) fun t v u s G r F p=>?_;exact k t v u s G r ((au.ext<|W.trans I).trans F) p
theorem pM(c:aQ C ax)(O:n<=44){cmd Z p f W}{G:a3 V}(R:aH cmd eO=some (.Y f))(B:cV C A (n+6) f [.S cmd,.S Z,.S p] M m (.ok<|dm W) (fun z=>z=M) m)(x:aN A 0 M m D h)(X:(dm W).length<=100000)(k:∀b U Q,aN A 0 M m Q U->au D h Q U->Loc Q U b (.ag<|W.map .S)->G (.Y b) U):
  cE (.ag [.S cmd,.S Z,.S p]) (fun q h=>C (n+1) none (.Y 996) [.Y A.H,q] (fun g h=>jX (eh C ax<|n+1) h g (.ae 1) fun v=>C (n+1) none (.Y 314) [v] (fun b h=>G b h) E h) E h) h:=by
 intro r T;have N:=aw (o:=.ag [.S cmd,.S Z,.S p]) T;refine fX c (am O) R B (x.ext N) (x.new T) (a1) fun j i w d u L K t=>?_;cases u;refine cC t.2 (v:=.S<|dm W) rfl ?_;refine s_split c (am O) (af X) (fun s J l X I F P=>?_) (fun e J a X y=>by rw[jt]at X;trivial);rw[jt]at X;obtain rfl:=Except.ok.inj X;exact k s J w (L.ext I) (((au.ext N).trans K).trans<|au.ext I) ⟨L.fresh F,P⟩
theorem pN{U b}{Z W:List aa}{K}(x:aN A 0 M m D h)(R:Loc D h U (.ag<|Z.map .S))(Q:Loc D h b (.ag<|W.map .S))(T:Z.length+W.length<=100000)(k:∀a X,aN A 0 M m D X->au D h D X->Loc D X a (.ag<|(Z++W).map .S)->K (.Y a) X):ou U b K h:=by refine add_list R.2 Q.2 (by simp;exact af T) ?_;rw[<-map_append];intro a V;exact k a _ (x.ext<|aw V) (au.ext<|aw V)<|x.new V
theorem JS(c:aQ C ax)(T:n<=44){X W U pa d}(x:aN A 0 M m D h)(L:a0 X=.ok d)(K:X.length<=1000)(a6:dT W)(a7:dT U)(t:Loc D h pa (.ag [.S W,.S U]))(k:∀N i,aN A 0 M m i N->au D h i N->P (.aP true) N):C n none (.Y 1043) [.Y A.H,.S X,.Y pa] P E h:=by
 have hz:=cH L;have aC:=cG L;have J:d.length<=1000:=((aT 0x606c840462204d4087d02880c0c3e8144840402) K hz);have eK:pq X=.ok (dm (d.map (·.1))):=a4 L;have a8:∀p,ps X p=.ok (dm ((d.map (·.1)).filter (bP p))):=fun p=>a4 L;have a9:∀p,pt X p=.ok (dm ((d.map (·.2)).filter (bP p))):=fun p=>a4 L;have ai:=pv d;have c2:=xP d;have jl:∀l:List aa,b3 l<=6000->l.length<=1000->(dm l).length<=100000:=fun l h1 s=>by have:=lC l;exact((aT 0x2304c0409a21021f40a2230417701a4040830d4044908103) h1 s this)
 have jK:=jl (d.map (·.1)) (by exact((bh 0x10620364204d40800c0d88810fa051018185dc069210203) K hz ai)) (by rw[length_map];exact J);have F:∀p,b3 ((d.map (·.1)).filter (bP p))<=6000/\((d.map (·.1)).filter (bP p)).length<=1000:=fun p=>⟨by have:=pu (bP p) (d.map (·.1));exact((bV tF) K hz ai this),by have:=length_filter_le (bP p) (d.map (·.1));rw[length_map]at this;exact((az n3) J this)⟩;have B:∀p,b3 ((d.map (·.2)).filter (bP p))<=6000/\((d.map (·.2)).filter (bP p)).length<=1000:=fun p=>⟨by have:=pu (bP p) (d.map (·.2));exact((bV tF) K hz c2 this),by have:=length_filter_le (bP p) (d.map (·.2));rw[length_map]at this;exact((az n3) J this)⟩;have Q:∀{R:Rs}{r:aa},R=.ok r->∀er,R=.error er->er.msg.length<=1000000:=fun h1 er s=>by rw[h1]at s;trivial
 refine c.fn rfl (af T) ?_;intro q1 b6;have e1:=aw (o:=.ag [.S iR,.S X]) b6;refine fX c (am T) (f:=512) rfl ((I0 c (cW T)<|af K).cmd<|Q eK) (x.ext e1) (x.new b6) (a1) fun g1 h1 D1 M1 I x1 ce r1=>?_;cases I;rw[eK]at r1;have s1:au D h D1 h1:=(au.ext e1).trans ce;refine cC r1.2 (v:=.S (dm (d.map (·.1)))) rfl ?_;refine s_split c (am T) (af jK) (fun kn s l hl x2 cf c3=>?_) (fun e s er hl y=>by rw[jt]at hl;trivial);rw[jt]at hl;obtain rfl:=Except.ok.inj hl;have b7:=x1.ext x2;have s2:au D h D1 s:=s1.trans<|au.ext x2;have cg:Loc D1 s kn (.ag ((d.map (·.1)).map .S)):=⟨x1.fresh cf,c3⟩;intro f0 b8;have e3:=aw (o:=.ag []) b8;have ch:Loc D1 (s.set f0 (.ag [])) f0 (.ag ([].map V.S)):=b7.new b8;have s3:=s2.trans<|au.ext (D:=D1) e3;have ci:=b7.ext e3;refine hx (s3.loc t).2 ?_;have fin:∀{h9:ar}{D9:aa}{a b:Nat}{RR:Rs},aN A 0 M m D9 h9->au D h D9 h9->dC D9 h9 a RR->dC D9 h9 b RR->Mine.Internal.dat 4 h9 (.Y a)=some (h8 RR)/\Mine.Internal.dat 4 h9 (.Y b)=some (h8 RR):=fun O O ra rb=>⟨ra.dat (n:=2),rb.dat (n:=2)⟩;refine pM c T (f:=512) (cmd:=iR) (W:=(d.map (·.1)).filter<|bP W) rfl (by exact aW (a8 W)<|(yf c (am T) a6<|af K).cmd<|Q<|a8 W) ci (jl _ (F W).1 (F W).2) fun b h4 D4 x4 s4 lb=>?_;refine pN x4 (s4.loc ch) lb (by have:=(F W).2;simp;exact af this) fun f1 h4 x4 z b9=>?_;have s4:=s4.trans z;have ba:=s3.trans s4;rw[nil_append]at b9;refine⟨(ba.loc t).2,?_⟩;refine pM c T (f:=512) (cmd:=iR) (W:=(d.map (·.1)).filter<|bP U) rfl (by exact aW (a8 U)<|(yf c (am T) a7<|af K).cmd<|Q<|a8 U) x4 (jl _ (F U).1 (F U).2) fun b c4 D5 x5 s5 lb=>?_;refine pN x5 (s5.loc b9) lb (oo (F W).2 (F U).2 rfl) fun f2 c4 x5 z aj=>?_;have s5:=s5.trans z;have bc:=ba.trans s5;refine⟨(bc.loc t).2,?_⟩;have a2:=((au.ext (D:=D1) e3).trans<|s4.trans s5).loc cg;refine xh a2.2 ?_;have ab:((d.map (·.1)).filter (bP W)++(d.map (·.1)).filter (bP U))=(([W,U]:List aa).map fun p=>(d.map (·.1)).filter (bP p)).flatten:=by simp
 rw[ab]at aj;generalize bd:(([W,U]:List aa).map fun p=>(d.map (·.1)).filter<|bP p).flatten=w at aj;have c5:w.length<=10000:=by rw[<-bd,<-ab,length_append];exact oo (F W).2 (F U).2 rfl
 refine yF (bb:=some (kn,.ag ((d.map (·.1)).map .S))) (fun N=>N=c4) (fun k=>!decide (k∈w)) ?_ (d.map (·.1)) [] c4 rfl (fun v hv N G cy kk=>?_) (fun N G=>Z G a2.2) (by simp;exact af J) fun N G=>?_;exact fun O O O k=>k
 .subst G;refine in_list aj.2 (yH _ _) (by simp;exact af c5) ?_;rw[yG];exact kk _ rfl
 subst G;rw[nil_append];intro go be;have e6:=aw (o:=.ag<|(jw d w).map .S) be;have x6:=x5.ext e6;have bf:=bc.trans<|au.ext (D:=D5) e6;have cj:Loc D5 (N.set go (.ag ((jw d w).map .S))) go (.ag ((jw d w).map .S)):=x5.new be;have c6:=(au.ext (D:=D5) e6).loc a2;have bg:(jw d w).length<=1000:=by have:=length_filter_le (fun k=>!decide (k∈w)) (d.map (·.1));rw[length_map]at this;exact((az n3) J this)
 have bi:∀g,∃r,h5 X (fun k v=>[W,U].any fun p=>bP p (if g=dU then v else k))=.ok r:=fun g=>by unfold h5;exact Z L ⟨_,rfl⟩
 have bj:∀ac,∃r,fg X ac=.ok r:=fun ac=>by unfold fg;exact Z L ⟨_,rfl⟩
 have bk:=JQ (Z:=[W,U]) L;have bl:=JR (Y:=[W,U]) L;rw[bd]at bk;refine pL (n:=n) (U:=[.S gg,.S X,.S h6]) c (af T) (f:=617) (sub:=gg) (ws:=[.S X,.S h6,.S W,.S U]) rfl ((yh c (am T) a6 a7 (af K)<|.inl rfl).cmd<|Q (bi h6).choose_spec) x6 (bf.loc t) rfl (a1) fun g7 h7 D7 M7 I x7 ak r7=>?_;cases I;have c7:=ak.loc cj;have ck:=bf.trans ak;have c8:=ak.loc c6;refine pL (n:=n) (U:=[.S e5,.S X]) c (af T) (f:=470) (sub:=e5) (ws:=.S X::(jw d w).map .S) rfl ((nz c (am T) (af K)<|af bg).cmd<|Q (bj<|jw d w).choose_spec) x7 c7 rfl (by simp;exact af bg) fun g8 cu D8 M8 I x8 al r8=>?_;cases I;rw[bk]at r7;have bm:=ck.trans al;have c9:=al.loc c8;have z1:=fin x8 bm (r7.cv al) r8;have da:=z1.1;have db:=z1.2;refine⟨_,_,da,db,d9 _,?_⟩;rw[eb];intro f9 bn;have e9:=aw (o:=.ag []) bn;have cl:Loc D8 (cu.set f9 (.ag [])) f9 (.ag ([].map V.S)):=x8.new bn;have bo:=bm.trans<|au.ext (D:=D8) e9;refine hx (bo.loc t).2 ?_;refine pM c T (f:=519) (cmd:=kz) (W:=(d.map (·.2)).filter<|bP W) rfl (by exact aW (a9 W)<|(yg c (am T) a6<|af K).cmd<|Q<|a9 W) (x8.ext e9) (jl _ (B W).1 (B W).2) fun b cm cw an q lb=>?_;refine pN an (q.loc cl) lb (by have:=(B W).2;simp;exact af this) fun cx cm an z ao=>?_;have q:=q.trans z;have ap:=bo.trans q;rw[nil_append]at ao;refine⟨(ap.loc t).2,?_⟩;refine pM c T (f:=519) (cmd:=kz) (W:=(d.map (·.2)).filter<|bP U) rfl (by exact aW (a9 U)<|(yg c (am T) a7<|af K).cmd<|Q<|a9 U) an (jl _ (B U).1 (B U).2) fun b ad aq as j lb=>?_;refine pN as (j.loc ao) lb (oo (B W).2 (B U).2 rfl) fun cz ad as z a3=>?_;have j:=j.trans z;have av:=ap.trans j;refine⟨(av.loc t).2,?_⟩;have ae:=((au.ext (D:=D8) e9).trans<|q.trans j).loc c9;refine xh ae.2 ?_;have ah:((d.map (·.2)).filter (bP W)++(d.map (·.2)).filter (bP U))=(([W,U]:List aa).map fun p=>(d.map (·.2)).filter (bP p)).flatten:=by simp
 rw[ah]at a3;generalize bp:(([W,U]:List aa).map fun p=>(d.map (·.2)).filter<|bP p).flatten=u at a3;rw[bp]at bl;have ca:u.length<=10000:=by rw[<-bp,<-ah,length_append];exact oo (B W).2 (B U).2 rfl
 refine yF (bb:=some (kn,.ag ((d.map (·.1)).map .S))) (fun N=>∃i,aN A 0 M m i N/\au aq ad i N) (fun k=>!decide ((aH k d).getD []∈u)) ?_ (d.map (·.1)) [] ad ⟨aq,as,au.ext Ext.rfl⟩ (fun v hv N G cy kk=>?_) (fun N G=>by refine G.elim fun i z2=>?_;exact(z2.2.loc ae).2) (by simp;exact af J) fun N G=>?_;exact fun O O O k=>k
 .refine G.elim fun i z3=>?_;refine(mem_map.mp hv).elim fun pp z4=>?_;obtain rfl:=z4.2;have br:=pj aC z4.1;have eG:en X pp.1=.ok pp.2:=by unfold en;rw[L];dsimp only;exact Z br rfl
  have cn:pp.1.length<=100000:=by have:=lB z4.1;exact((bh 0x110109820a04d40800c0d88810fa0510181861a8089210203) K hz this)
  intro bq bs;have y1:=aw (o:=.ag [.S hJ,.S X,.S pp.1]) bs;refine fX (n:=n+2) c (am T) (f:=484) (sub:=hJ) (ws:=[.S X,.S pp.1]) rfl ((ye c (cW T) (af K) cn).cmd<|Q eG) (z3.1.ext y1) (z3.1.new bs) (a1) fun g1 bt bu M1 I co cb bv=>?_;cases I;rw[eG]at bv;have sj:au aq ad bu bt:=(z3.2.trans<|au.ext y1).trans cb;refine cC bv.2 (v:=.S pp.2) rfl ?_;refine in_list (sj.loc a3).2 (yH _ _) (by simp;exact af ca) ?_;rw[yG];have:=kk bt ⟨bu,co,sj⟩;rw[br]at this;exact this
 refine G.elim fun bw z5=>?_;have cc:=av.trans z5.2;rw[nil_append];intro bx ay;have bz:=aw (o:=.ag<|(jx d u).map .S) ay;have cp:=z5.1.ext bz;have b0:=cc.trans<|au.ext (D:=bw) bz;have cd:Loc bw (N.set bx (.ag ((jx d u).map .S))) bx (.ag ((jx d u).map .S)):=z5.1.new ay;have b1:(jx d u).length<=1000:=by have:=length_filter_le (fun k=>!decide ((aH k d).getD []∈u)) (d.map (·.1));rw[length_map]at this;exact((az n3) J this)
 refine pL (n:=n) (U:=[.S gg,.S X,.S dU]) c (af T) (f:=617) (sub:=gg) (ws:=[.S X,.S dU,.S W,.S U]) rfl ((yh c (am T) a6 a7 (af K)<|.inr rfl).cmd<|Q (bi dU).choose_spec) cp (b0.loc t) rfl (a1) fun d0 d1 d2 d3 I cq b2 c0=>?_;cases I;have b5:=b2.loc cd;have b4:=b0.trans b2;refine pL (n:=n) (U:=[.S e5,.S X]) c (af T) (f:=470) (sub:=e5) (ws:=.S X::(jx d u).map .S) rfl ((nz c (am T) (af K)<|af b1).cmd<|Q (bj<|jx d u).choose_spec) cq b5 rfl (by simp;exact af b1) fun d4 cr cs d5 I c1 a5 ct=>?_;cases I;rw[bl]at c0;have z7:=fin c1 (b4.trans a5) (c0.cv a5) ct;refine⟨_,_,z7.1,z7.2,d9 _,?_⟩;rw[eb];exact k cr cs c1<|b4.trans a5
end
end
theorem JT{aq k}{v w:aq}{a r}(h:k∉a.map (·.1)):put k w (a++(k,v)::r)=a++(k,w)::r:=by
 induction a with
 |nil=>exact if_pos rfl
 |cons p a ab=>exact(if_neg fun e:p.1=k=>h (e▸.head _)).trans (bn (p::·)<|ab fun q=>h<|.tail _ q)
theorem yI{aq k}{v:aq}{a r}(h:k∉a.map (·.1)):del k (a++(k,v)::r)=a++r:=by
 induction a with
 |nil=>exact if_pos rfl
 |cons p a ab=>exact(if_neg fun e:p.1=k=>h (e▸.head _)).trans (bn (p::·)<|ab fun q=>h<|.tail _ q)
theorem JU{aq k}{v:aq}{a r}(h:k∉a.map (·.1)):aH k (a++(k,v)::r)=some v:=by
 induction a with
 |nil=>exact if_pos rfl
 |cons p a ab=>exact(if_neg fun e:p.1=k=>h (e▸.head _)).trans<|ab fun q=>h<|.tail _ q
noncomputable def eD(M:cr)(p:aa×aa):Option (aa×aa):=(M p.1).map fun v=>(p.1,v)
theorem JV(M){x}:∀{d:bk},x∈(d.filterMap<|eD M).map (·.1)->x∈d.map (·.1):=by intro d h;obtain⟨q,Y,rfl⟩:=mem_map.mp h;obtain⟨p,X,Z⟩:=mem_filterMap.mp Y;unfold eD at Z;obtain⟨v,_,rfl⟩:=Option.map_eq_some_iff.mp Z;exact List.mem_map_of_mem (f:=(·.1)) (a:=p) X
theorem yJ(M):∀(r pre:bk)(Y:Bool),((pre++r).map (·.1)).Nodup->eR M (pre.filterMap (eD M)++r) ((r.map (·.1)).zip (r.map (·.1))) Y=((pre++r).filterMap<|eD M,Y||decide (r≠[])):=by
 intro r;induction r with
 |nil=>intro pre Y O;simp[pA,nu]
 |cons pp r ab=>
  obtain⟨k,v⟩:=pp;intro pre Y aC;have W:k∉(pre.filterMap (eD M)).map (·.1):=fun h=>by have:=JV M h;rw[map_append,nodup_append]at aC;exact aC.2.2 k this k (.head _) rfl
  have X:(((pre++[(k,v)])++r).map (·.1)).Nodup:=by simpa using aC
  simp only[map_cons,zip_cons_cons,pA,nu];cases U:M k with
  |some w=>
   dsimp only;have Z:=ab (pre++[(k,v)]) true X;have V:(pre++[(k,v)]).filterMap (eD M)=pre.filterMap (eD M)++[(k,w)]:=by rw[filterMap_append];simp[eD,U]
   rw[V]at Z;rw[JT W,show pre.filterMap (eD M)++(k,w)::r=pre.filterMap (eD M)++[(k,w)]++r by exact append_cons ..,Z];simp
  |none=>
   dsimp only;rw[JU W,if_pos (by rfl),yI W];have Z:=ab (pre++[(k,v)]) true X;have V:(pre++[(k,v)]).filterMap (eD M)=pre.filterMap (eD M):=by rw[filterMap_append];simp[eD,U]
   rw[V]at Z;rw[Z];simp
theorem pO{x}:∀{d:bk}{M:cr},x∉d.map (·.1)->writeAll M d x=M x:=by
 intro d;induction d with
 |nil=>intro M O;exact rfl
 |cons pp r ab=>obtain⟨k,v⟩:=pp;intro M h;show writeAll (setM M k<|some v) r x=_;rw[ab fun q=>h<|.tail _ q];exact(if_neg fun e=>h<|by rw[e];exact .head _)
theorem yK{p}:∀{d:bk}{M:cr},(d.map (·.1)).Nodup->p∈d->writeAll M d p.1=some p.2:=by
 intro d;induction d with
 |nil=>intros;trivial
 |cons pp r ab=>
  obtain⟨k,v⟩:=pp;intro M aC h;have Z:=nodup_cons.mp aC;show writeAll (setM M k<|some v) r p.1=_;rcases bU h with q|q
  .subst q;exact(pO Z.1).trans<|if_pos rfl
  .exact ab Z.2 q
theorem JW{one item M}:∀{d:bk},(d.map (·.1)).Nodup->(∀p∈d,M p.1=some (if p.1=one then item else p.2))->d.filterMap (eD M)=if(aH one d).isSome then put one item d else d:=by
 intro d;induction d with
 |nil=>intro O O;exact rfl
 |cons pp r ab=>
  obtain⟨k,v⟩:=pp;intro aC h;have Z:=nodup_cons.mp aC;have Y:=h (k,v)<|.head _;dsimp only at Y;have ab:=ab Z.2 fun p X=>h p<|.tail _ X;rw[filterMap_cons];simp only[eD,Y,Option.map_some];rw[ab];by_cases q:k=one
  .subst q;have W:aH k r=none:=by
    rcases e:aH k r with _|w
    .rfl
    .exact absurd (List.mem_map_of_mem (f:=(·.1))<|iK e) Z.1
   simp[l8,jT,l9,fL,W]
  .simp only[l8,jT,l9,fL,if_neg q];split<;>rfl
theorem JX{one M}:∀{d:bk},(d.map (·.1)).Nodup->(∀p∈d,M p.1=if p.1=one then none else some p.2)->d.filterMap (eD M)=del one d:=by
 intro d;induction d with
 |nil=>intro O O;exact rfl
 |cons pp r ab=>
  obtain⟨k,v⟩:=pp;intro aC h;have Y:=nodup_cons.mp aC;have Z:=h (k,v)<|.head _;dsimp only at Z;have ab:=ab Y.2 fun p X=>h p<|.tail _ X;rw[filterMap_cons];by_cases q:k=one
  .subst q;rw[if_pos rfl]at Z;simp only[eD,Z,Option.map_none];rw[ab];have W:aH k r=none:=by
    rcases e:aH k r with _|w
    .rfl
    .exact absurd (List.mem_map_of_mem (f:=(·.1))<|iK e) Y.1
   rw[sy W];simp[ma,hd]
  .rw[if_neg q]at Z;simp only[eD,Z,Option.map_some];rw[ab];simp[ma,hd,q]
theorem nG{aq k}{v:aq}{d}(h:aH k d=some v):put k v d=d:=by
 induction d with
 |nil=>cases h
 |cons p r ab=>obtain⟨a,b⟩:=p;by_cases q:a=k;subst q;exact aW (a2<|(if_pos rfl).symm.trans h)<|if_pos rfl;exact(if_neg q).trans (bn ((a,b)::·)<|ab<|(if_neg q).symm.trans h)
theorem JY{k v}{d:bk}(h:aH k d=none):del k (put k v d)=d:=by have Z:=sJ h;rw[lE Z];have:=yI (r:=([]:bk)) (v:=v) Z;simpa using this
theorem JZ{M}{d:bk}{one Y item}(W:M eC=some item)(V:M fG=aH Y d):eR M d [(one,eC),(Y,fG)] false=(if one≠Y then put one item d else d,true):=by
 simp only[pA,nu,W];rw[V];by_cases q:one=Y
 .subst q;have e:(if one≠one then put one item d else d)=d:=if_neg (by simp);rw[e];cases X:aH one d with|some v=>dsimp only;rw[lO,nG X]|none=>dsimp only;rw[jv,if_pos (by rfl),JY X]
 .rw[if_pos q];cases X:aH Y d with|some v=>dsimp only;exact Z (nG<|by rw[lD,if_neg q,X]) rfl|none=>dsimp only;rw[lD,if_neg q,X,if_neg<|aU]
theorem J0{M}{d:bk}{one Y}(W:M eC=aH one d)(V:M fG=aH Y d):eR M d [(one,eC),(Y,fG)] false=(d,(aH one d).isSome||(aH Y d).isSome):=by
 simp only[pA,nu,W,V];cases U:aH one d with
 |some v=>
  dsimp only;rw[nG U];cases X:aH Y d with
  |some w=>dsimp only;exact Z (nG X) rfl
  |none=>rfl
 |none=>
  dsimp only;rw[if_neg<|aU];cases X:aH Y d with
  |some w=>dsimp only;exact Z (nG X) rfl
  |none=>rfl
section
open PySem
def c5(s:aa):Prop:=104∉s
theorem lP{s t}(h:c5 s)(Z:104∈t):s≠t:=fun e=>h (e▸Z)
theorem iN:104∈bw/\104∈nName/\104∈hF/\104∈eC/\104∈fG:=by exact aU
def tn(M Z:cr):Prop:=Z nName=M nName/\Z hF=M hF
section
variable{C:eW}{ax:Nat->Option (List V)}{n:Nat}{U:Option Nat}{P:a3 V}{E:a3 Nat}{h:ar}{A:fh}{aY:Int}{M:cr}{m a8:Nat}{D:aa}{Q:cr->Prop}{R:Rs}
theorem J1(c:aQ C ax)(Y:n<=60)(X:m<=600000){sub W t Z}(V:M bw=some t)(T:t.length<=1000)(U:a0 t=.error Z):cV C A n 645 [.S sub,.S bw,.S W] M m (.error Z) (fun R=>R=M) (m+1):=
 fun D h q P E Q O I N=>IR c (af Y) Q O X (by exact aL) V (af T) U fun e L K x st J=>N e L K Z M rfl rfl x st J
theorem yL{t d}(Y:M bw=some t)(X:∀p∈d,c5 p.1):writeAll M d bw=some t/\writeAll M d nName=M nName/\writeAll M d hF=M hF:=by
 have out:∀x,104∈x->x∉d.map (·.1):=fun x W V=>by refine(mem_map.mp V).elim fun p Z=>?_;obtain rfl:=Z.2;exact X p Z.1 W
 exact⟨(pO<|out _ iN.1).trans Y,pO<|out _ iN.2.1,pO<|out _ iN.2.2.1⟩
theorem J2(c:aQ C ax)(R:n<=58){sub t one item d}(Q:m+10*t.length+100<=600000)(O:M bw=some t)(V:t.length<=1000)(U:a0 t=.ok d)(G:∀p∈d,c5 p.1)(T:c5 one)(N:one.length<=1000)(L:item.length<=1000)(F:M nName=some one)(B:M hF=some item):
  cV C A n 645 [.S sub,.S bw,.S iM] M m (.ok []) (fun K=>K bw=some (if d=[]then t else bg (if(aH one d).isSome then put one item d else d))/\tn M K) (m+10*t.length+100):=by
 intro D h q P E z y w r;have aC:=cG U;have J:=cH U;have Y:=yL (M:=M) O G;have I:∀p∈d,(setM (writeAll M d) one (some item)) p.1=some (if p.1=one then item else p.2):=fun p v=>by unfold setM;split;rfl;exact yK aC v
 have X:=yJ (setM (writeAll M d) one<|some item) d [] false (by trivial);rw[show([]:bk).filterMap (eD<|setM (writeAll M d) one<|some item)++d=d from rfl,nil_append,JW aC I,Bool.false_or]at X;have H:(setM (writeAll M d) one (some item)) bw=some t:=by exact(if_neg fun e=>lP T iN.1 e.symm).trans Y.1
 have W:=kr U;have hsz:bH (if(aH one d).isSome then put one item d else d)<=8000000:=by split;have:=e0 one item d;exact((bV tA) V N L J this);exact((az qc) V J)
 refine yb c (af R) z y Q (a8:=m+1+d.length+5) (by exact((aT 0x200409c08502911026412a0c8081241250201) W)) (by exact aL) O (af V) U (x6 c (am R) (by exact((aT 0x410813810927c028720722282300940830d400a1210240250202) Q W)) (by exact Y.2.1.trans F)<|by exact Y.2.2.trans B) H (by exact Z X hsz) fun u s x st=>w [] u s _ rfl ⟨?_,?_,?_⟩ x st
 .unfold putBack;rw[X];simp only[setM];rw[if_pos trivial];by_cases q:d=[]
  .exact Z (if_pos q)<|Z (if_neg<|by simp[q]) rfl
  .exact Z (if_neg q)<|Z (if_pos<|by simp[q]) rfl
 .exact(if_neg<|by exact aU).trans<|(if_neg fun e=>lP T iN.2.1 e.symm).trans Y.2.1
 .exact(if_neg<|by exact aU).trans<|(if_neg fun e=>lP T iN.2.2.1 e.symm).trans Y.2.2
set_option tactic.hygienic true in
theorem J3(c:aQ C ax)(T:n<=58){sub t one d}(R:m+10*t.length+100<=600000)(Q:M bw=some t)(O:t.length<=1000)(U:a0 t=.ok d)(H:∀p∈d,c5 p.1)(W:c5 one)(G:M nName=some one):
  cV C A n 645 [.S sub,.S bw,.S ns] M m (.ok []) (fun N=>N bw=some (if d=[]then t else bg (del one d))/\tn M N) (m+10*t.length+100):=by
 intro D h q P E F B z s;have aC:=cG U;have y:=cH U;have X:=yL (M:=M) Q H;have V:(if(writeAll M d one).isSome then setM (writeAll M d) one none else writeAll M d)=setM (writeAll M d) one none:=by split;rfl;rename_i q;exact(x9<|by simpa using q).symm
 have L:=IG (C:=C) (A:=A) (n:=n+3) (m:=m+1+d.length) (M:=writeAll M d) c (am T) (by have:=kr U;exact((aT 0x410813810927c028720722282300940830d400a1210240250202) R this)) (nm:=one) (by exact X.2.1.trans G);rw[V]at L;have K:∀p∈d,(setM (writeAll M d) one none) p.1=if p.1=one then none else some p.2:=fun p w=>by unfold setM;split;rfl;exact yK aC w
 have Y:=yJ (setM (writeAll M d) one none) d [] false (by trivial);rw[show([]:bk).filterMap (eD<|setM (writeAll M d) one none)++d=d from rfl,nil_append,JX aC K,Bool.false_or]at Y;have J:(setM (writeAll M d) one none) bw=some t:=by exact(if_neg fun e=>lP W iN.1 e.symm).trans X.1
 have I:=kr U;refine yb c (af T) F B R (a8:=m+1+d.length+5) (by exact((aT 0x200409c08502911026412a0c8081241250201) I)) (by exact aL) Q (af O) U L J (by rw[Y];have:=nd one d;dsimp only;exact((aT 0x4108100181b11021f40a203030f424005c908103) O y this)) fun v u x st=>z [] v u _ rfl ⟨?_,?_,?_⟩ x st
 .unfold putBack;rw[Y];simp only[setM];rw[if_pos trivial];by_cases q:d=[]
  .exact Z (if_pos q)<|Z (if_neg<|by simp[q]) rfl
  .exact Z (if_neg q)<|Z (if_pos<|by simp[q]) rfl
 .exact(if_neg<|by exact aU).trans<|(if_neg fun e=>lP W iN.2.1 e.symm).trans X.2.1
 .exact(if_neg<|by exact aU).trans<|(if_neg fun e=>lP W iN.2.2.1 e.symm).trans X.2.2
theorem J4(c:aQ C ax)(V:n<=58){sub t one Y item d}(T:m<=500000)(R:M bw=some t)(W:t.length<=1000)(U:a0 t=.ok d)(Q:one.length<=1000)(O:item.length<=1000)(K:M nName=some eC)(J:M hF=some item):
  cV C A n 638 [.S sub,.S bw,.S one,.S eC,.S Y,.S fG,.S iM] M m (.ok []) (fun N=>N bw=some (bg (if one≠Y then put one item d else d))/\tn M N) (m+100):=by
 intro D h q P E I H G z;have L:=cH U;have X:=JZ (M:=setM (setM (setM M eC<|aH one d) fG<|aH Y d) eC<|some item) (d:=d) (one:=one) (Y:=Y) (item:=item) (by exact bn some rfl) (by simp[setM];intro e;exact absurd e<|by exact aU);refine yc c (af V) I H (af T) (a8:=m+3+5) (by exact(aF 0x502900a8338220128100)) (by exact aL) (by exact aL) (by exact aL) R (af W) U (x6 (nm:=eC) (v:=item) c (am V) (am T) ?_ ?_) ?_ ?_ fun F B x st=>G [] F B _ rfl ⟨?_,?_,?_⟩ x st;exact K;exact J;exact R
 .rw[X];dsimp only;split;have:=e0 one item d;exact((bV tA) W Q O L this);exact((az qc) W L)
 .unfold putBack;exact Z X<|bn some rfl
 .rfl
 .rfl
theorem J5(c:aQ C ax)(W:n<=58){sub t one Y d}(R:m<=500000)(V:M bw=some t)(T:t.length<=1000)(U:a0 t=.ok d):
  cV C A n 638 [.S sub,.S bw,.S one,.S eC,.S Y,.S fG,.S hC] M m (.ok []) (fun Q=>Q bw=some (if((aH one d).isSome||(aH Y d).isSome)then bg d else t)) (m+100):=by
 intro D h q P E O N L H;have K:=cH U;have X:=J0 (M:=setM (setM M eC<|aH one d) fG<|aH Y d) (d:=d) (one:=one) (Y:=Y) (by simp[setM];intro e;exact absurd e<|by exact aU) (by rfl);refine yc c (af W) O N (af R) (a8:=m+3+5) (by exact(aF 0x502900a8338220128100)) (by exact aL) (by exact aL) (by exact aL) V (af T) U (IF c<|am W) ?_ ?_ fun J I x st=>L [] J I _ rfl ?_ x st;exact V
 .rw[X];dsimp only;exact((az qc) T K)
 .unfold putBack;exact Z X rfl
theorem J6{t k d}(U:a0 t=.ok d):nj t k=(aH k d).isSome:=by unfold nj en;rw[U];dsimp only;cases aH k d<;>rfl
theorem yM{k}{d:bk}(h:(aH k d).isSome=true):d≠[]:=fun e=>by subst e;trivial
noncomputable def nH(t:aa)(d:bk):aa:=if d=[]then t else bg d
theorem J7{t one item}{d:bk}:(if d=[]then t else bg (if(aH one d).isSome then put one item d else d))=if(aH one d).isSome then bg (put one item d)else nH t d:=by
 cases h:(aH one d).isSome with
 |true=>exact Z (if_neg<|yM h)<|Z (if_pos rfl)<|Z (if_pos rfl) rfl
 |false=>rfl
theorem J8{t one}{d:bk}:(if d=[]then t else bg (del one d))=if(aH one d).isSome then bg (del one d)else nH t d:=by
 cases h:(aH one d).isSome with
 |true=>exact(if_neg<|yM h).trans (if_pos rfl).symm
 |false=>exact Z (sy<|by simpa using h) rfl
theorem pP(c:aQ C ax)(w:n<=46){sub R more f V Z N X K}(L:aH sub eO=some (.Y f))(v:cV C A (n+7) f (.S sub::.S bw::more) (setM M bw<|some X) (m+1) (.ok []) Q a8)(x:aN A 0 M m D h)(u:m+1<=800000)(G:a8<=800000)(F:Loc D h V (.ag more))(P:h Z=none)(O:(h.set Z<|.an [.S sub,.Y V]) N=none)(t:more.length<=10000)(s:∀W,Q W->W bw=some R)(k:∀a U J W,Q W->aN A 0 W (a8+1) J U->au D h J U->hG J U a (.ok []) R->K (.Y a) U):
  C (n+1) none (.Y 1003) [.Y A.H,.S X,.Y N] K E ((h.set Z<|.an [.S sub,.Y V]).set N<|.ag [.Y Z]):=by
 have I:=aw (o:=.an [.S sub,.Y V]) P;have T:=aw (o:=.ag [.Y Z]) O;have s2:=x.ext I;refine pC c (am w) L v (s2.ext T) (af u) (af G) (s2.new O) ((au.ext T).loc<|x.new P) ((au.ext<|I.trans T).loc F) t s fun a r i q p B l z j y=>?_;exact k a _ q p B l ((au.ext<|I.trans T).trans z) ⟨r,j,y⟩
theorem pQ{z a w Z}(x:aN A 0 M m D h)(R:hG D h a (.ok []) Z)(U:h z=none)(T:(h.set z<|.an [.ae 0,.S []]) w=none)(X)(Q:X=(h.set z<|.an [.ae 0,.S []]).set w (.an [.Y z,.S Z])):
  aN A 0 M m D X/\au D h D X/\Mine.Internal.dat 4 X (.Y a)=some (lL (.ok []) Z)/\Mine.Internal.dat 4 X (.Y w)=some (lL (.ok []) Z):=by
 subst Q;have W:=aw (o:=.an [.ae 0,.S []]) U;have V:=aw (o:=.an [.Y z,.S Z]) T;have P:dC D (h.set z (.an [.ae 0,.S []])) z (.ok []):=x.new U;have O:hG D _ w (.ok []) Z:=⟨z,(x.ext W).new T,P.cv<|au.ext V⟩;exact⟨(x.ext W).ext V,au.ext<|W.trans V,(R.cv<|au.ext<|W.trans V).dat,O.dat⟩
theorem yN(c:aQ C ax)(R:n<=46){sub r gR ws s f i b p N F X l}(Z:aH sub eO=some (.Y f))(Q:b=true->cV C A (n+6) f (.S sub::ws) M m (.ok r) (fun P=>P=M) m)(x:aN A 0 M m D h)(O:ws.length<=10000)(L:cE (.ag<|.S sub::ws) (fun q h=>C (n+1) none (.Y 996) [.Y A.H,q] (fun t h=>jX (eh C ax<|n+1) h t (.ae 1) fun v=>N (v::s) l h) (fun e h=>X e l h) h) h->p)(aj:∀K:V->Prop,K (.S gR)->hZ l i K)(k:∀W U,aN A 0 M m U W->au D h U W->N (.S (if b then r else gR)::s) l W):
  eV b p (run (eh C ax<|n+1) none [.x i] N F X s l h):=by
 cases b with
 |false=>exact aj _<|k h D x<|au.ext Ext.rfl
 |true=>refine L<|ku (n:=n) c R Z (Q rfl) x O fun t J I z G E T B=>?_;cases G;exact cC B.2 (v:=.S r) rfl<|k J I E T
theorem yO(c:aQ C ax)(U:n<=46){Z X d K}(T:a0 Z=.ok d)(Q:Z.length<=1000)(P:X.length<=1000)(x:aN A 0 M m D h)(k:∀g W V,aN A 0 M m V W->au D h V W->dC V W g (.ok (if(aH X d).isSome then[49]else[48]))->K (.Y g) W):
  cE (.ag [.S jz,.S Z,.S X]) (fun q h=>C (n+1) none (.Y 996) [.Y A.H,q] K E h) h:=by
 refine ku (n:=n) c U (f:=498) (sub:=jz) (ws:=[.S Z,.S X]) rfl ((IY c (am U) (af Q)<|af P).cmd fun G F=>by trivial) x (aL) fun t O N B L J R I=>?_;cases L;exact k t O N J R ((J6 T)▸I)
theorem yP{b:Bool}{g z}(x:aN A 0 M m D h)(V:dC D h g (.ok (if b then[49]else[48])))(W:h z=none)(Z)(U:Z=h.set z (.an [.ae 0,.S [49]])):
  aN A 0 M m D Z/\au D h D Z/\Mine.Internal.dat 4 Z (.Y g)=some (h8<|.ok (if b then[49]else[48]))/\Mine.Internal.dat 4 Z (.Y z)=some (h8<|.ok [49])/\(h8<|.ok (if b then[49]else[48])).ok (h8<|.ok [49])=true/\(h8<|.ok (if b then[49]else[48])).beq (h8<|.ok [49])=b:=by
 subst U;have X:=aw (o:=.an [.ae 0,.S [49]]) W;have T:dC D (h.set z (.an [.ae 0,.S [49]])) z (.ok [49]):=x.new W;refine⟨x.ext X,au.ext X,(V.cv<|au.ext X).dat (n:=2),T.dat (n:=2),?_⟩;cases b;exact⟨rfl,rfl⟩;exact⟨rfl,rfl⟩
theorem J9{B W i Z d U s N F X l}(T:Loc D h W (.an [.ae 0,.S<|bg d]))(R:∀K:V->Prop,K (.Y W)->hZ l 5 K)(aj:∀K:V->Prop,K (.S Z)->hZ l i K)(k:N (.S (nH Z d)::s) l h):
  eV (!@decide (bg d=[]) U) (run B none [.x 5,.k<|.ae 1,.idx] N F X s l h) (run B none [.x i] N F X s l h):=by
 unfold nH at k;refine dec_not (fun q=>?_) fun q=>?_;rw[if_pos<|pG.mp q]at k;exact aj _ k;rw[if_neg fun e=>q<|pG.mpr e]at k;exact R _<|cC T.2 (v:=.S<|bg d) rfl k
theorem Ka(c:aQ C ax)(R:n<=46){Q Z one W item d}{I:Decidable (one=W)}{p s N F X l}(P:a0 Z=.ok d)(G:Z.length<=1000)(U:one.length<=1000)(E:item.length<=1000)(x:aN A 0 M m D h)(B:Loc D h Q (.an [.ae 0,.S<|bg d]))(z:∀K:V->Prop,K (.Y Q)->hZ l 5 K)(y:cE (.ag [.S fZ,.S Z,.S one,.S item]) (fun q h=>C (n+1) none (.Y 996) [.Y A.H,q] (fun t h=>jX (eh C ax<|n+1) h t (.ae 1) fun v=>N (v::s) l h) (fun e h=>X e l h) h) h->p)(k:∀T O,aN A 0 M m O T->au D h O T->N (.S (bg (if one≠W then put one item d else d))::s) l T):
  eV (!@decide (one=W) I) p (run (eh C ax<|n+1) none [.x 5,.k<|.ae 1,.idx] N F X s l h):=by
 have w:cZ Z one item=.ok (bg (put one item d)):=a4 P;refine dec_not (fun q=>?_) fun q=>y ?_;rw[if_neg<|by simpa using q]at k;exact z _<|cC B.2 (v:=.S<|bg d) rfl<|k h D x<|au.ext Ext.rfl;rw[if_pos q]at k;refine ku (n:=n) c R (f:=463) (sub:=fZ) (ws:=[.S Z,.S one,.S item]) rfl ((ny c (am R) (af G) (af U)<|af E).cmd fun i u=>nB u) x (a1) fun t U r g o j L J=>?_;cases o;rw[w]at J;exact cC J.2 (v:=.S<|bg<|put one item d) rfl<|k U r j L
theorem Kb{B W Z d b s N F X l}(U:Loc D h W (.an [.ae 0,.S<|bg d]))(T:∀K:V->Prop,K (.Y W)->hZ l 5 K)(R:∀K:V->Prop,K (.S Z)->hZ l 1 K)(k:N (.S (if b then bg d else Z)::s) l h):
  eV b (run B none [.x 5,.k<|.ae 1,.idx] N F X s l h) (run B none [.x 1] N F X s l h):=by
 cases b with
 |true=>exact T _<|cC U.2 (v:=.S<|bg d) rfl k
 |false=>exact R _ k
theorem Kc(c:aQ C ax)(W:n<=44){X one V item wh d}(x:aN A 0 M m D h)(T:m+60*X.length<=400000)(U:a0 X=.ok d)(G:X.length<=1000)(h1:one.length<=1000)(h2:V.length<=1000)(h3:item.length<=1000)(hk:∀p∈d,c5 p.1)(ho:c5 one)(hw:Loc D h wh (.an [.ae 0,.S<|bg d]))(k:∀h' D' M' a8,aN A 0 M' a8 D' h'->au D h D' h'->P (.aP true) h'):C n none (.Y 1050) [.Y A.H,.S X,.S one,.S V,.S item,.Y wh] P E h:=by
 have eR:cZ X one item=.ok (bg (put one item d)):=a4 U;have eD:fg X [one]=.ok (bg (del one d)):=a4 U;refine c.fn rfl (af W) ?_;refine x.own rfl (fun O O=>rfl) ?_;refine gD c (am W) x ((az 0x61a8026447819805021e848050808101) T) fun bu D1 x1 b0=>?_;refine x1.own rfl (fun O O=>rfl) ?_;refine gD c (am W) x1 ((az 0x186a009911e066014087a120143024028101) T) fun ad D2 x2 b1=>?_;have x2:aN A 0 (setM (setM M nName (some one)) hF (some item)) (m+2) D2 ad:=x2;have s2:au D h D2 ad:=b0.trans b1;refine yO (n:=n) c (af W) U G h1 x2 fun g bv D3 x3 b2 rg=>?_;intro z R;have z1:=yP x3 rg R _ rfl;have x3:=z1.1;have z3:=z1.2.1;have fk:=z1.2.2.1;have dz:=z1.2.2.2.1;have e1:=z1.2.2.2.2.1;have e2:=z1.2.2.2.2.2;refine⟨_,_,fk,dz,e1,?_⟩;rw[e2];have s3:=(s2.trans b2).trans z3;refine cC (s3.loc hw).2 (v:=.S<|bg d) rfl ?_;refine J9 (Z:=X) (s3.loc hw) (fun O k=>k) (fun O k=>k) ?_;refine yN (n:=n) c (af W) (f:=463) (sub:=fZ) (r:=bg<|put one item d) (ws:=[.S X,.S one,.S item]) rfl (fun O=>aW eR<|(ny c (am W) (af G) (af h1)<|af h3).cmd fun er he=>nB he) x3 (a1) (fun k=>k) (fun O k=>k) fun h4 D4 x4 b3=>?_;have s4:=s3.trans b3;rw[<-J7 (t:=X)];generalize b4:(if d=[]then X else bg (if(aH one d).isSome then put one item d else d))=dw;intro mq Q;have b5:=x4.ext<|aw (o:=.ag [.S iM]) Q;have b6:=s4.trans<|au.ext (D:=D4)<|aw (o:=.ag [.S iM]) Q;intro tq N sq L;refine pP (n:=n) (R:=dw) c (af W) (f:=645) (sub:=g3) (more:=[.S iM]) rfl (J2 (one:=one) (item:=item) c (am W) ((az 0xc35004c88f03300a04249f00a1c81c88a08e04c08804928101) T) (bn some rfl) G U hk ho h1 h3 rfl rfl) b5 ((az 0xc35004c88f03300a0430d400a18130220128101) T) ((az 0xc35004c88f03300a0430d400a1c81c88a08e04c08804928101) T) (x4.new Q) N L (succ_pos _) (fun M' u=>u.1.trans<|a4 b4) fun a h5 D5 M5 ah x5 b7 s=>?_;intro z R w K;have z2:=pQ x5 s R K _ rfl;have x5:=z2.1;have z5:=z2.2.1;have da:=z2.2.2.1;have db:=z2.2.2.2;have s5:=(b6.trans b7).trans z5;refine⟨_,_,da,db,d9 _,?_⟩;rw[eb];have n5:M5 nName=some one:=ah.2.1;have i5:M5 hF=some item:=ah.2.2;refine yN (n:=n) c (af W) (f:=470) (sub:=e5) (r:=bg<|del one d) (ws:=[.S X,.S one]) rfl (fun O=>aW eD<|(nz (ac:=[one]) c (am W) (af G)<|a1).cmd fun er he=>s0 he) x5 (aL) (fun k=>k) (fun O k=>k) fun h6 D6 x6 b8=>?_;have s6:=s5.trans b8;rw[<-J8 (t:=X)];generalize b9:(if d=[]then X else bg (del one d))=dd;intro mq Q;have ba:=x6.ext<|aw (o:=.ag [.S ns]) Q;have bc:=s6.trans<|au.ext (D:=D6)<|aw (o:=.ag [.S ns]) Q;intro tq N sq L;refine pP (n:=n) (R:=dd) c (af W) (f:=645) (sub:=g3) (more:=[.S ns]) rfl (J3 (one:=one) c (am W) ((az 0xc35004c88f03300a04249f00a1c81c88a08e04c09c81c88a08e04c08804924928101) T) (by rfl) G U hk ho<|(if_neg<|aU).trans n5) ba ((az 0xc35004c88f03300a0430d400a18130272072228238130220124928101) T) ((az 0xc35004c88f03300a0430d400a1c81c88a08e04c09c81c88a08e04c08804924928101) T) (x6.new Q) N L (succ_pos _) (fun M' u=>u.1.trans<|a4 b9) fun a h7 D7 M7 bd x7 be s=>?_;intro z R w K;have z8:=pQ x7 s R K _ rfl;have x7:=z8.1;have z7:=z8.2.1;have da:=z8.2.2.1;have db:=z8.2.2.2;have s7:=(bc.trans be).trans z7;refine⟨_,_,da,db,d9 _,?_⟩;rw[eb];have i7:M7 hF=some item:=bd.2.2.trans<|(if_neg<|aU).trans i5;refine x7.own rfl (fun O O=>rfl) ?_;refine gD c (am W) x7 ((az 0x30d4013223c0cc02810f424028604e40e44504702604e40e445047026044024924928101) T) fun h8 D8 x8 bf=>?_;have x8:aN A 0 (setM M7 nName (some eC)) _ D8 h8:=x8;have s8:=s7.trans bf;intro mo l;have l:h8 mo=none:=l;have e9:=aw (o:=.ag [.S one,.S eC,.S V,.S fG]) l;have x9:=x8.ext e9;have bh:Loc D8 (h8.set mo (.ag [.S one,.S eC,.S V,.S fG])) mo (.ag [.S one,.S eC,.S V,.S fG]):=x8.new l;have s9:=s8.trans<|au.ext (D:=D8) e9;refine Ka (n:=n) c (af W) U G h1 h3 x9 (s9.loc hw) (fun O k=>k) (fun k=>k) fun bw bi ai a5=>?_;have bj:=s9.trans a5;have j:=a5.loc bh;generalize bk:bg (if one≠V then put one item d else d)=du;intro bq a6;have q:=aw (o:=.ag [.S iM]) a6;refine add_list (q _ _ j.2) (aD) (a1) ?_;intro eq B;have y2:=q.trans<|aw (o:=.ag [.S one,.S eC,.S V,.S fG,.S iM]) B;have as:=ai.ext y2;intro tq N sq L;refine pP (n:=n) (R:=du) c (af W) (f:=638) (sub:=ib) (more:=[.S one,.S eC,.S V,.S fG,.S iM]) rfl (J4 (item:=item) c (am W) ((az 0x186a009911e066014087a12026604c09813903911411c09813903911411c0981100924924928101) T) (bn some rfl) G U h1 h3 rfl<|(if_neg<|aU).trans<|(if_neg<|aU).trans i7) as ((az 0x30d4013223c0cc02810c350028604c09813903911411c09813903911411c0981100924924928101) T) ((az 0x30d4013223c0cc02810c3500287207302604c09c81c88a08e04c09c81c88a08e04c08804924924928101) T) ⟨(ai.ext q).fresh B,aD⟩ N L (a1) (fun M' u=>u.1.trans<|a4 bk) fun a aj ak al bs J a7 s=>?_;intro z R w K;have i:=pQ J s R K _ rfl;have J:=i.1;have ao:=i.2.1;have da:=i.2.2.1;have db:=i.2.2.2;have bl:=((bj.trans<|au.ext y2).trans a7).trans ao;have ab:=(((au.ext (D:=bi) y2).trans a7).trans ao).loc j;refine⟨_,_,da,db,d9 _,?_⟩;rw[eb];have⟨e,hm11,J⟩:∃e,e<=450000/\aN A 0 al e ak ((aj.set z (.an [.ae 0,.S []])).set w (.an [.Y z,.S du])):=by refine⟨_,?_,J⟩;exact((az 0x61a8026447819805021b774099813903981302604e40e44504702604e40e445047026044024924924928101) T)
 have a9:∀(bb:Bool){y:ar}{b:aa},((aH one d).isSome||(aH V d).isSome)=bb->aN A 0 al e b y->au ak ((aj.set z (.an [.ae 0,.S []])).set w (.an [.Y z,.S du])) b y->run (eh C ax (n+1)) none (cf [.ay (.aA .Eq (.bW (.k (.Y 1003)) [(.x 0),(.x 1),(.ag [(.an [(.k (.S ib)),(.aM .Add (.x 9) (.ag [(.k (.S gG))]))])])]) (.an [(.an [(.k (.ae 0)),(.k (.S []))]),(.aB (.x 6) (.aE (.x 5) (.k (.ae 1))) (.x 1))]))]) (jf P) (jg P) (jh E) [] [some (.Y A.H),some (.S X),some (.S one),some (.S V),some (.S item),some (.Y wh),some (.aP bb),some (.S (nH X d)),some (.S du),some (.Y mo)] y:=by intro bb y b bm a2 F;have qs:=bl.trans F;intro bq a6;have q:=aw (o:=.ag [.S hC]) a6;refine add_list (q _ _ (F.loc ab).2) (aD) (a1) ?_;intro eq B;have y2:=q.trans<|aw (o:=.ag [.S one,.S eC,.S V,.S fG,.S hC]) B;intro tq N sq L;refine pP (n:=n) (R:=if bb then bg d else X) c (af W) (f:=638) (sub:=ib) (more:=[.S one,.S eC,.S V,.S fG,.S hC]) rfl (J5 c (am W) (am hm11) (by rfl) G U) (a2.ext y2) (am hm11) (cW hm11) ⟨(a2.ext q).fresh B,aD⟩ N L (a1) (fun M' u=>Z u<|Z bm rfl) fun a bx bo bp bt br av s=>?_;have ap:=(qs.trans<|au.ext y2).trans av;intro z R;refine Kb (d:=d) ((ap.trans<|au.ext<|aw R).loc hw) (fun O k=>k) (fun O k=>k) ?_;intro w K;have a3:=pQ br s R K _ rfl;refine⟨_,_,a3.2.2.1,a3.2.2.2,d9 _,?_⟩;rw[eb];exact k _ bo bp _ a3.1<|ap.trans a3.2.1
 cases aq:(aH one d).isSome with
 |true=>exact a9 true (Z aq rfl) J<|au.ext Ext.rfl
 |false=>refine yO (n:=n) c (af W) U G h2 J fun g y b a2 F rg=>?_;intro z R;have I:=yP a2 rg R _ rfl;refine⟨_,_,I.2.2.1,I.2.2.2.1,I.2.2.2.2.1,?_⟩;rw[I.2.2.2.2.2];exact a9 _ (Z aq rfl) I.1<|F.trans I.2.1
noncomputable def tq:aa:=[97,98,49,35,123,125,34,92,32,10,93,59,55,45]
def cs(t:aa)(n:Nat):Prop:=t.length<=n/\∀c∈t,c∈tq
theorem pR{aq}(l:List aq)(r k:Int)(V:(l.length:Int)=k)(Y:0<k):∃v∈l,c9 (r.fmod k) l=some v/\0<=r.fmod k/\r.fmod k<k:=by have Z:0<=r.fmod k:=Int.fmod_nonneg_of_pos r Y;have X:r.fmod k<k:=Int.fmod_lt_of_pos r Y;have W:(r.fmod k).toNat<l.length:=(Int.toNat_lt Z).mpr (V▸X);refine⟨l[(r.fmod k).toNat],getElem_mem W,?_,Z,X⟩;exact(if_neg<|Int.not_lt.mpr Z).trans<|List.getElem?_eq_getElem W
theorem cs.app{t u n m}(a:cs t n)(b:cs u m):cs (t++u) (n+m):=⟨by rw[length_append];exact add_le_add a.1 b.1,fun c Z=>(mem_append.mp Z).elim (a.2 c)<|b.2 c⟩
theorem nI(c:aQ C ax)(R:n<=88){V}{xs:List Int}{W:Nat}{own}(T:ax V=some (xs.map .ae))(S:xs.length<=1000)(k:∀v,P (.ae v) h):C n U (.Y 982) [.Y V,.ae W,.ae own] P E h:=by refine c.fn rfl (af R) ?_;refine c.wJ T (by simp;exact af S) ?_;refine a9 (fun X=>?_) fun X=>?_;exact k _;rw[length_map]at X;have Q:W<xs.length:=(Int.ofNat_lt.mp X);refine G0 T (v:=.ae xs[W]) (Z gV<|Z List.getElem?_map<|Z (List.getElem?_eq_getElem Q) rfl) cL ((az 0x440bfd028808108000000000000000fc888172) S X) ?_;exact k _
theorem yQ(c:aQ C ax)(y:n<=86){U X}(M:X<=10)(k:∀t W,Ext h W->cs t X->P (.S t) W):C n none (.Y 954) [.ae U,.ae X] P E h:=by
 have Q:(0:Int)<(X:Int)+1:=(aF 0x409008018170);have O:0<=U.fmod ((X:Int)+1):=Int.fmod_nonneg_of_pos _ Q;have T:U.fmod ((X:Int)+1)<(X:Int)+1:=Int.fmod_lt_of_pos _ Q;refine c.fn rfl (af y) ?_;refine⟨Int.ne_of_gt Q,Nat.lt_of_le_of_lt (succ_le_succ M)<|aL,?_⟩;refine⟨Ne.symm<|Int.ne_of_lt Q,?_⟩;refine c.iC (jS O rfl) (Int.lt_of_lt_of_le T<|Int.le_trans (Int.ofNat_le.mpr<|succ_le_succ M)<|aU) fun a w=>?_;refine m6 (aD) ?_;refine dI (fun L J=>ha fun(i:Int)(j:Nat)(t:aa)(r:Int)(x:Option V)(W:ar)=>eE (L=j0 i j) (cs t<|X-j) (j<=X) (Ext h W)<|J=⟨[some<|.ae U,some<|.ae X,some<|.S t,some<|.ae r,x],W⟩) ?_ ?_ ⟨0,gN 0<|U.fmod<|(X:Int)+1,[],_,none,_,rfl,⟨aL,aU⟩,Int.toNat_le.mpr<|Z (Int.sub_zero _)<|Int.le_of_lt_add_one T,aw w,rfl⟩
 .rintro v ad q ab p bm J ⟨i,j,t,r,x,W,I,N,R,K,rfl⟩;cases j with|zero=>trivial|succ j=>cases I;obtain⟨s,H,G,F,D⟩:=pR ([97,98,49,35,123,125,34,92,32,10,93,59]:aa) r 12 rfl<|bQ;refine⟨aU,?_⟩;refine de G (jS F rfl) (jR D rfl) ?_;have B:=N.1;refine⟨by simp;exact((bh 0x40930882812202204282101021fffffe60888103) M B<|bz<|(az 0x110240281011024028101) R),?_⟩;refine⟨aU,aL,?_⟩;refine(ab _ trivial ⟨_,j,t++[s],_,_,W,rfl,?_,(le_of_succ_le R),K,rfl⟩);have A:s∈tq:=mem_append_left [55,45] H;have:=N.app (u:=[s]) (m:=1) ⟨lt_succ_self _,fun c z=>by rw[mem_singleton]at z;exact Z z A⟩;exact Z (show X-j=X-(j+1)+1 by exact bR ((bh 0x1030a04a04904210081081221188102) (bt X<|j+1)<|bz<|le_of_succ_le R)<|(bh 0x409208c281220210081011024c28102) (bt X j)<|bz<|(az 0x110240281011024028101) R) this
 .rintro J ⟨i,j,t,r,x,W,I,N,R,K,rfl⟩;cases j with|succ j=>trivial|zero=>exact k t W K N
theorem Kd(c:aQ C ax)(Q:n<=84){Z}(k:∀t W,Ext h W->cs t 3->P (.S t) W):C n none (.Y 968) [.ae Z] P E h:=by
 refine c.fn rfl (af Q) ?_;refine⟨aU,?_⟩;refine a9 (fun R=>?_) fun R=>?_
 .intro a O;refine⟨aU,?_⟩;have T:0<=Z.fmod 7:=Int.fmod_nonneg_of_pos _<|bQ;have X:Z.fmod 7<7:=Int.fmod_lt_of_pos _<|bQ;obtain⟨t,U,Ke⟩:∃t,cs t 3/\c9 (Z.fmod 7) [V.S [97],.S [98],.S [],.S [49],.S [35],.S [97,32,98]]=some (.S t):=by
   refine(Int.eq_ofNat_of_zero_le T).elim fun i aj=>?_;rw[aj]at X R⊢;rcases i with _|_|_|_|_|_|_|i
   rotate_right
   .exact absurd X (aF 0x1c1981302604c09813026048049249581a0)
   rotate_right
   .exact absurd rfl R
   .exact⟨[97],by unfold cs;exact of_decide_eq_true rfl,rfl⟩
   .exact⟨[98],by unfold cs;exact of_decide_eq_true rfl,rfl⟩
   .exact⟨[],by unfold cs;exact of_decide_eq_true rfl,rfl⟩
   .exact⟨[49],by unfold cs;exact of_decide_eq_true rfl,rfl⟩
   .exact⟨[35],by unfold cs;exact of_decide_eq_true rfl,rfl⟩
   .exact⟨[97,32,98],by unfold cs;exact of_decide_eq_true rfl,rfl⟩
  refine eA (aD) Ke (jS T rfl) (jR X rfl) ?_;exact k t _ (aw O) U
 .refine⟨aU,aL,?_⟩;refine yQ c (am Q) (X:=2) (aL) fun t W x U=>?_;exact k t W x ⟨by have:=U.1;exact af this,U.2⟩
theorem Kf(c:aQ C ax)(Q:n<=88){X}(k:∀v:Int,v.natAbs<=10^33->P (.ae v) h):C n U (.Y 975) [.ae X] P E h:=by
 refine c.fn rfl (af Q) ?_;refine⟨bQ,bQ,aL,?_⟩;refine⟨.inl<|aL,?_⟩;refine⟨by decide+kernel,?_⟩;have V:(2:Int)*10^(31:Int).toNat=20000000000000000000000000000000:=by decide+kernel
 have T:0<=X.fmod (2*10^(31:Int).toNat):=Int.fmod_nonneg_of_pos _<|Z V<|bQ;have S:X.fmod (2*10^(31:Int).toNat)<20000000000000000000000000000000:=by have:=Int.fmod_lt_of_pos X (b:=2*10^(31:Int).toNat)<|Z V<|bQ;exact this
 generalize X.fmod (2*10^(31:Int).toNat)=W at*;have R:=Int.fdiv_eq_ediv_of_nonneg W (b:=2)<|bQ;have fin:∀v:Int,(v=W.fdiv 2\/v=-1-W.fdiv 2)->P (.ae v) h:=fun v O=>k v (by
  have N:W.natAbs<=20000000000000000000000000000000:=Int.ofNat_le.mp<|Z (Int.natAbs_of_nonneg T)<|Int.le_of_lt S;have bx:=bp (Int.natAbs_ediv_le_natAbs W 2) N;rcases O with q|q<;>rw[q,R]
  .exact bp bx<|aL
  .exact bp (Int.natAbs_sub_le _ _)<|bp (Nat.add_le_add_left bx 1)<|aL)
 refine⟨aU,?_⟩;refine a9 (fun M=>?_) fun M=>?_;refine⟨aU,aL,?_⟩;exact fin _<|.inr rfl;refine⟨aU,aL,?_⟩;exact fin _<|.inl rfl
noncomputable def pS:List aa:=[[97],[98],[123,125],[123,97,32,49,125],[92,35],[34,98,32,97,34],[49],[123,98,32,123,97,32,49,125,125],[97,92,32,98],[45,55]]
theorem Kg:∀w∈pS,cs w 9:=by unfold cs;exact of_decide_eq_true rfl
theorem Kh{Z}(W:cs Z 2){l}(h:∀w∈l,cs w 9):cs (eH Z l) (11*l.length):=by
 induction l with
 |nil=>exact⟨Nat.le_refl _,aU⟩
 |cons x r ab=>
  have Y:=h x<|.head _;cases r with
  |nil=>exact⟨af Y.1,Y.2⟩
  |cons y r=>have X:=(Y.app W).app<|ab fun w V=>h w<|.tail _ V;refine⟨?_,X.2⟩;have:=X.1;exact((az 0x204885611c08c842900810813024425611808101) this)
theorem yR(c:aQ C ax)(p:n<=84){W}(k:∀t X,Ext h X->cs t 60->P (.S t) X):C n none (.Y 961) [.ae W] P E h:=by
 refine c.fn rfl (af p) ?_;refine⟨aU,?_⟩;refine a9 (fun A=>?_) fun A=>?_
 .intro o m;refine⟨aU,aL,?_⟩;refine⟨aU,aL,?_⟩;refine⟨aU,?_⟩;have f:0<=(W.fdiv 3).fmod 6:=Int.fmod_nonneg_of_pos _<|bQ;have F:(W.fdiv 3).fmod 6<6:=Int.fmod_lt_of_pos _<|bQ;refine c.iC (jS f rfl) (jR F rfl) fun a e=>?_;refine m6 (aD) ?_;have xo:Ext h (h.set o (.ag [])):=aw m;have d:=bv e<|ar.at h o<|.ag [];refine dI (fun y J=>ha fun(i:Int)(j:Nat)(l:List aa)(r:Int)(x:Option V)(X:ar)=>fI (y=j0 i j) (l.length+j<=5) (∀w∈l,cs w 9) (Ext h X) (X o=some (.ag<|l.map .S))<|J=⟨[some<|.ae W,some<|.Y o,some<|.ae r,x],X⟩) ?_ ?_ ⟨0,gN 0<|(W.fdiv 3).fmod 6,[],_,none,_,rfl,by unfold gN;simp;exact(fun{a b}=>Int.le_iff_lt_add_one.mpr) F,by simp,xo.trans<|aw e,(bl d).trans<|aD,rfl⟩
  .rintro v ad Kb ab kb bm J ⟨i,j,l,r,x,X,u,R,L,s,U,rfl⟩;cases j with
   |zero=>trivial
   |succ j=>
    cases u;refine eL U ?_;intro q H;have G:Ext X (X.set q (.ag (pS.map .S))):=aw H;refine⟨aU,?_⟩;obtain⟨w,N,T,Q,K⟩:=pR pS r 10 rfl<|bQ;have O:c9 (r.fmod 10) (pS.map V.S)=some (.S w):=by unfold c9 at T⊢;rw[if_neg<|Int.not_lt_of_ge Q]at T⊢;exact List.getElem?_map.trans<|a4 T
    refine eA (aD) O (jS Q rfl) (jR K rfl) ?_;have a0:o≠q:=bv H U;refine eM ((bl a0).trans U) (dr<|(az 0x141981221005021e8480060808101) R) ?_;refine⟨aU,aL,?_⟩;refine(ab _ trivial ⟨_,j,l++[w],_,_,_,rfl,by simp;exact((az 0xa0cc0910802810a0c888120128101) R),?_,(s.trans G).own m _,?_,rfl⟩)
    .intro z hz;rcases mem_append.mp hz with g|g
     .exact L z g
     .rw[mem_singleton]at g;exact Z g<|Kg w N
    .exact Z map_append<|aD
  .rintro J ⟨i,j,l,r,x,X,u,R,L,s,U,rfl⟩;cases j with
   |succ j=>trivial
   |zero=>
    have I:b3 l<=9*l.length:=by
     clear U R u;induction l with
     |nil=>exact Nat.le_refl _
     |cons a r ab=>have A:=(L a<|.head _).1;have M:=ab fun w hw=>L w<|.tail _ hw;exact((aT 0x42423110212108081081241484620028102) A M)
    have fin:∀{D:aa}{M:ar},cs D 2->Ext X M->P (.S (eH D l)) M:=fun hs x2=>by have:=Kh hs L;exact k _ _ (s.trans x2) ⟨by have:=this.1;exact((az 0xb08c440850640100ac207818888102) R this),this.2⟩
    refine⟨aU,?_⟩;refine a9 (fun M=>?_) fun M=>?_;refine eK rfl ?_;refine kh U (kk _) ((az 0x48462204283200805810200000064c0900b04c428102) R I) ?_;exact fin (by unfold cs;exact of_decide_eq_true rfl) Ext.rfl
    .intro q H;have G:Ext X (X.set q (.ag [.S [32],.S [32,32]])):=aw H;refine⟨aU,aL,?_⟩;refine⟨aU,?_⟩;obtain⟨w,N,T,Q,K⟩:=pR ([[32],[32,32]]:List aa) (W.fdiv 18) 2 rfl<|bQ;have O:c9 ((W.fdiv 18).fmod 2) [V.S [32],V.S [32,32]]=some (.S w):=by unfold c9 at T⊢;rw[if_neg<|Int.not_lt_of_ge Q]at T⊢;exact Z (show([V.S [32],V.S [32,32]]:List V)=([[32],[32,32]]:List aa).map V.S from rfl)<|Z List.getElem?_map<|Z T rfl
     have B:cs w 2:=by simp(iota:=false)only[mem_cons,not_mem_nil,or_false]at N;rcases N with rfl|rfl<;>(unfold cs;exact of_decide_eq_true rfl)
     have a1:=B.1;refine eA (aD) O (jS Q rfl) (jR K rfl) ?_;refine eK rfl ?_;have hm:(w.length+1)*(l.length+1)<=3*6:=Nat.mul_le_mul (am a1)<|(aF 0x50640100a043033024028101) R;refine kh (G _ _ U) (kk _) ((aT 0xc0ce09908100121188810a0c80201484080000019240428103) R I hm) ?_;exact fin B G
 .refine⟨aU,aL,?_⟩;refine yQ c (am p) (X:=10) (Nat.le_refl _) fun t X x ht=>?_;exact k t X x ⟨by have:=ht.1;exact af this,ht.2⟩
def clean(s:aa):Prop:=∀c∈s,c≠104/\c≠120/\c≠117/\c≠85/\(48<=c->c<=55->c=49\/c=55)
theorem yS{t n}(h:cs t n):clean t:=fun c Z=>by have:∀c∈tq,c≠104/\c≠120/\c≠117/\c≠85/\(48<=c->c<=55->c=49\/c=55):=aU;exact this c<|h.2 c Z
theorem iO{a}{r:aa}(h:clean (a::r)):clean r:=fun c Z=>h c<|.tail _ Z
theorem pT{r s:aa}(h:clean s)(x:r<:+s):clean r:=fun c Z=>h c<|x.subset Z
theorem Ki{c}(h:¬(dig c<0\/7<dig c)):48<=c/\c<=55:=by
 unfold dig at h;split at h;rename_i Z;exact⟨Z.1,Int.ofNat_le.mp (show(c:Int)<=((55:Nat):Int) from Int.le_add_of_sub_right_le (Int.not_lt.mp fun g=>h<|.inr g))⟩
 .split at h;rename_i Z;exact absurd (bp Z.1<|Int.ofNat_le.mp (show(c:Int)<=((94:Nat):Int) from Int.le_add_of_sub_right_le (Int.not_lt.mp fun g=>h<|.inr g)))<|aU
  .split at h;rename_i Z;exact absurd (bp Z.1<|Int.ofNat_le.mp (show(c:Int)<=((62:Nat):Int) from Int.le_add_of_sub_right_le (Int.not_lt.mp fun g=>h<|.inr g)))<|aU;exact absurd (.inl<|bQ) h
theorem Kj(k):∀(s:aa)(v:Int),clean s->v≠104->(dH k s v).1≠104:=by
 induction k with
 |zero=>exact fun s v O Y=>Y
 |succ k ab=>
  intro s v X Y;cases s with
  |nil=>exact Y
  |cons c r=>
   show(if v<32 then(if dig c<0\/7<dig c then(v,c::r)else dH k r (v*8+dig c))else(v,c::r)).1≠104;by_cases W:v<32
   .rw[if_pos W];by_cases U:dig c<0\/7<dig c;rw[if_pos U];exact Y
    .rw[if_neg U];have V:=Ki U;refine ab r _ (iO X) ?_;rcases(X c (.head _)).2.2.2.2 V.1 V.2 with q|q
     .exact Z q (fun e=>absurd (bn (·%8) e) (by show¬(v*8+1)%8=0;rw[Int.add_comm,Int.add_mul_emod_self_right];exact aU))
     .exact Z q (fun e=>absurd (bn (·%8) e) (by show¬(v*8+7)%8=0;rw[Int.add_comm,Int.add_mul_emod_self_right];exact aU))
   .rw[if_neg W];exact Y
theorem nJ{h a d C t es o}(W:d≠a)(V:dV h a d C es t=none):(dV h a d C es).set t o=dV (h.set t o) a d C es/\t≠a/\t≠d:=by
 have Y:=bv V nk;have X:=bv V<|nn W;refine⟨?_,Y.symm,X.symm⟩;funext b;unfold dV ar.set;by_cases q:b=t;subst q;exact Z (if_pos rfl)<|Z (if_neg<|Ne.symm Y)<|Z (if_neg<|Ne.symm X)<|Z (if_pos rfl) rfl
 .rw[if_neg q];split;rfl
  .split;rfl;rfl
theorem h9{h a d C b es}(Z:b≠a)(Y:b≠d):dV h a d C es b=h b:=by exact(bl Z).trans<|bl Y
theorem Kk(c:aQ C ax)(r:n<=84)(k:∀a d T I X V R W S O L F K,Ext h K->h a=none->h d=none->h T=none->h X=none->h V=none->h R=none->h I=none->
   [a,d,T,I,X,V,R].Nodup->
   K a=some (.dt 945 d)->K d=some (.bK<|hD ⟨a,d,T,I,X,V,R,0,0,0⟩ 0 0 0)->K T=some (.av [] W)->K I=some (.av [] S)->K X=some (.av [] O)->K V=some (.av [] L)->K R=some (.av [] F)->P (.Y a) K):C n U (.Y 945) [] P E h:=by
 refine c.wG (af r) fun d a U q Z=>?_;refine G2 (f:=.Y 716) rfl<|c.fn rfl (am r) ?_;intro W T w;have D:=nJ (o:=.av [] W) Z w;change run _ _ _ _ _ _ _ _ ((dV h a d 945 _).set T<|.av [] W);rw[D.1];refine e3 Z rfl (a1) ?_;intro S I x;have B:=nJ (o:=.av [] S) Z x;change run _ _ _ _ _ _ _ _ ((dV (h.set T<|.av [] W) a d 945 _).set I<|.av [] S);rw[B.1];refine e3 Z rfl (a1)<|e3 Z rfl (a1)<|e3 Z rfl (a1)<|e3 Z rfl (a1)<|e3 Z rfl (a1)<|e3 Z rfl (a1)<|e3 Z rfl (a1)<|e3 Z rfl (a1) ?_;intro O X M;have A:=nJ (o:=.av [] O) Z M;change run _ _ _ _ _ _ _ _ ((dV ((h.set T<|.av [] W).set I<|.av [] S) a d 945 _).set X<|.av [] O);rw[A.1];refine e3 Z rfl (a1) ?_;intro L V N;have z:=nJ (o:=.av [] L) Z N;change run _ _ _ _ _ _ _ _ ((dV (((h.set T<|.av [] W).set I<|.av [] S).set X<|.av [] O) a d 945 _).set V<|.av [] L);rw[z.1];refine e3 Z rfl (a1) ?_;intro F R Q;have y:=nJ (o:=.av [] F) Z Q;change run _ _ _ _ _ _ _ _ ((dV ((((h.set T<|.av [] W).set I<|.av [] S).set X<|.av [] O).set V<|.av [] L) a d 945 _).set R<|.av [] F);rw[y.1];refine e3 Z rfl (a1) ?_;have w:h T=none:=(h9 D.2.1 D.2.2).symm.trans w;have x:(h.set T (.av [] W)) I=none:=(h9 B.2.1 B.2.2).symm.trans x;have M:((h.set T (.av [] W)).set I (.av [] S)) X=none:=(h9 A.2.1 A.2.2).symm.trans M;have N:(((h.set T (.av [] W)).set I (.av [] S)).set X (.av [] O)) V=none:=(h9 z.2.1 z.2.2).symm.trans N;have Q:((((h.set T (.av [] W)).set I (.av [] S)).set X (.av [] O)).set V (.av [] L)) R=none:=(h9 y.2.1 y.2.2).symm.trans Q;have v:Ext h (h.set T (.av [] W)):=aw w;have H:=aw (o:=.av [] S) x;have J:=aw (o:=.av [] O) M;have G:=aw (o:=.av [] L) N;have u:=aw (o:=.av [] F) Q;have ba:=ar.at h T<|.av [] W;have t:=ar.at (h.set T<|.av [] W) I<|.av [] S;have s:=ar.at ((h.set T<|.av [] W).set I<|.av [] S) X<|.av [] O;have oc:=ar.at (((h.set T<|.av [] W).set I<|.av [] S).set X<|.av [] O) V<|.av [] L;have ob:=ar.at ((((h.set T<|.av [] W).set I<|.av [] S).set X<|.av [] O).set V<|.av [] L) R<|.av [] F;have p:=(((v.trans H).trans J).trans G).trans u;have aj:h I=none:=v.fresh x;have m:h X=none:=(v.trans H).fresh M;have l:h V=none:=((v.trans H).trans J).fresh N;have j:h R=none:=(((v.trans H).trans J).trans G).fresh Q;refine⟨rfl,k a d T I X V R W S O L F _ (xV p q U) q U w m l j aj ?_ nk (nn Z) ?_ ?_ ?_ ?_ ?_⟩
 .have i:T≠I:=bv x ba;have g:T≠X:=bv M<|H _ _ ba;have e:T≠V:=bv N<|(H.trans J) _ _ ba;have b:T≠R:=bv Q<|((H.trans J).trans G) _ _ ba;have b2:I≠X:=bv M t;have b3:I≠V:=bv N<|J _ _ t;have b4:I≠R:=bv Q<|(J.trans G) _ _ t;have c3:X≠V:=bv N s;have c4:X≠R:=bv Q<|G _ _ s;have qt:V≠R:=bv Q oc;simp only[nodup_cons,mem_cons,not_mem_nil,or_false,not_or,not_false_eq_true,nodup_nil,and_true];exact⟨⟨Z.symm,D.2.1.symm,B.2.1.symm,A.2.1.symm,z.2.1.symm,y.2.1.symm⟩,⟨D.2.2.symm,B.2.2.symm,A.2.2.symm,z.2.2.symm,y.2.2.symm⟩,⟨i,g,e,b⟩,⟨b2,b3,b4⟩,⟨c3,c4⟩,qt⟩
 .exact(h9 D.2.1 D.2.2).trans<|(((H.trans J).trans G).trans u) _ _ ba
 .exact(h9 B.2.1 B.2.2).trans<|((J.trans G).trans u) _ _ t
 .exact(h9 A.2.1 A.2.2).trans<|(G.trans u) _ _ s
 .exact(h9 z.2.1 z.2.2).trans<|u _ _ oc
 .exact(h9 y.2.1 y.2.2).trans ob
noncomputable def iP:List (aa×V):=[([99,114,101,97,116,101],.Y 456),(jz,.Y 498),(hJ,.Y 484),(ky,.Y 491),(nM,.Y 491),(iR,.Y 512),(lV,.Y 477),(e5,.Y 470),(fZ,.Y 463),([115,105,122,101],.Y 505),(kz,.Y 519)]
noncomputable def nK:List (aa×V):=[(ic,.Y 540),(gh,.Y 554),(ia,.Y 547),(jF,.Y 561),(kA,.Y 568)]
noncomputable def pU:List (aa×V):=[(gg,.Y 617),(kI,.Y 589),(jG,.Y 596),(ib,.Y 638),(g3,.Y 645)]
def nL(a e:List (aa×V)):List (aa×V):=e.foldl (fun Z p=>put p.1 p.2 Z) a
theorem Kl:nL (nL iP nK) pU=eO:=by rfl
theorem yT(c:aQ C ax){a b W es ep A z N F X s}(y:h b=some (.av es ep))(r:h a=some (.av W A))(G:b≠a)(aC:(es.map (·.1)).Nodup)(m:W.length+es.length<=1000)(k:∀R e u,R a=some (.av (nL W es) e)->el a h R->N s [some<|.Y a,some<|.Y b,u] R):
  run (eh C ax n) none (cf [.b6 [2] false (.x 1) [.c0 (.x 0) (.x 2)<|.aE (.x 1)<|.x 2]]) N F X s [some<|.Y a,some<|.Y b,z] h:=by
 refine gY y<|dI (fun B J=>ha fun(pre l U:List (aa×V))(e:Nat)(R:ar)(u:Option V)=>fm (B=l.map (fun e=>V.S e.1)) (es=pre++l) (U=nL W pre) (U.length<=W.length+pre.length) (R a=some (.av U e)) (el a h R)<|J=⟨[some<|.Y a,some<|.Y b,u],R⟩) ?_ ?_ ⟨[],es,W,A,h,z,rfl,rfl,rfl,Nat.le_refl _,r,fun O O O e=>e,rfl⟩
 .rintro v ad j ab i bm J ⟨pre,l,U,e,R,u,w,T,Q,P,M,K,rfl⟩;cases l with
  |nil=>trivial
  |cons p l=>
   obtain⟨I,H⟩:=p;cases w;have t:aH I es=some H:=by rw[T];exact jq<|aW T aC
   have E:=K _ _ G y;have L:=bn List.length T;simp only[length_append,length_cons]at L;refine dA E t<|eB M ((bV 0x812811842204cc00442043e81444005021e8480060908103) m P L) fun e=>?_;refine(ab _ ((bl G).trans E) ⟨pre++[(I,H)],l,put I H U,e,_,_,rfl,by rw[T];exact append_cons ..,by rw[Q];unfold nL;exact Z foldl_append rfl,?_,aD,fun g o D q=>(bl D).trans<|K _ _ D q,rfl⟩);have:=ly I H U;exact Z length_append<|(bh 0x204804620408084020420490421188102) P this
 .rintro J ⟨pre,l,U,e,R,u,w,T,Q,P,M,K,rfl⟩;cases l with|cons p l=>trivial|nil=>rw[append_nil]at T;subst T;exact k R e _ (aW Q M) K
theorem Km(c:aQ C ax)(W:n<=86)(k:∀a M e,Ext h M->h a=none->M a=some (.av eO e)->P (.Y a) M):C n none (.Y 673) [] P E h:=by refine c.fn rfl (af W) ?_;refine c.fn rfl (am W) ?_;intro Z a L;have B:Ext h (h.set a (.av iP Z)):=aw L;refine c.fn rfl (am W) ?_;intro V b J;have U:=aw (o:=.av nK V) J;refine c.fn rfl (am W) ?_;intro K d Q;have T:=aw (o:=.av pU K) Q;intro t I;have S:=aw (o:=.an [.Y b,.Y d]) I;have A:=((U.trans T).trans S) _ _<|ar.at h a<|.av iP Z;have dp:=(T.trans S) _ _<|ar.at (h.set a<|.av iP Z) b<|.av nK V;have y:=S _ _<|ar.at ((h.set a<|.av iP Z).set b<|.av nK V) d<|.av pU K;have H:=ar.at (((h.set a<|.av iP Z).set b<|.av nK V).set d<|.av pU K) t<|.an [.Y b,.Y d];have x:=((B.trans U).trans T).trans S;have G:b≠a:=(bv J<|ar.at h a<|.av iP Z).symm;have O:d≠a:=(bv Q<|U _ _<|ar.at h a<|.av iP Z).symm;have X:t≠a:=(bv I<|(U.trans T) _ _<|ar.at h a<|.av iP Z).symm;refine si (aD) ?_;refine yT (n:=n+1) c dp A G (aU) (aL) fun q p u w R=>?_;refine⟨R _ _ X H,?_⟩;refine yT (n:=n+1) c (R _ _ O y) w O (aU) (aL) fun v s m r F=>?_;refine⟨F _ _ X<|R _ _ X H,?_⟩;refine k a v s ?_ L<|aW Kl r;intro z o D;have N:z≠a:=bv L D;exact F _ _ N<|R _ _ N<|x _ _ D
end
end
theorem Kn{x k}(h:x≠((k+1:Nat):Int))(e:k+1=x.toNat):False:=by
 cases x with
 |ofNat m=>exact h<|bn Int.ofNat e.symm
 |negSucc m=>exact Nat.noConfusion e
set_option tactic.hygienic true in
theorem yU{s}(h:clean s):c5 (bZ s).1:=by
 unfold bZ;split;unfold c5;exact of_decide_eq_true rfl
 .rename_i c r;have Z:=h c<|.head _;have Y:=Z.1;have W:=Z.2.1;have V:=Z.2.2.1;have U:=Z.2.2.2.1;have T:=Z.2.2.2.2;split
  .rename_i k X;unfold c5;simp only[mem_singleton];intro e;subst e;have m:=wk X;simp at m
  .split;unfold c5;exact of_decide_eq_true rfl
   .split
    .rename_i q;rcases q with q|q|q<;>trivial
    .split
     .unfold c5;dsimp only;rw[mem_singleton];have:=Kj 3 (c::r) 0 h<|aU;intro e;exact Kn this e
     .unfold c5;dsimp only;rw[mem_singleton];exact fun e=>Y e.symm
theorem yV{a b}(Z:c5 a)(Y:c5 b):c5 (a++b):=fun h=>(mem_append.mp h).elim Z Y
theorem yW{s}(h:clean s):c5 s:=fun q=>(h 104 q).1 rfl
theorem Ko:∀(s:aa)(p:aa×aa),clean s->quoted s=some p->c5 p.1:=by
 intro s;induction s using wp with
 |case1=>intro p _ h;rw[rN]at h;cases h
 |case2 r ab=>intro p Z h;rw[rO]at h;obtain⟨q,Y,rfl⟩:=Option.map_eq_some_iff.mp h;exact yV (yU<|iO Z)<|ab q (pT (iO Z) (hV r).2) Y
 |case3 r V=>intro p Z h;rw[rP]at h;cases h;unfold c5;exact of_decide_eq_true rfl
 |case4 c r Y X ab=>intro p Z h;rw[rQ r Y X]at h;obtain⟨q,W,rfl⟩:=Option.map_eq_some_iff.mp h;have:=ab q (iO Z) W;unfold c5 at*;simp only[mem_cons,not_or];exact⟨fun e=>(Z c<|.head _).1 e.symm,this⟩
theorem Kp:∀(s:aa),clean s->c5 (bare s).1:=by
 intro s;induction s using wq with
 |case1=>intro _;rw[o2];unfold c5;exact of_decide_eq_true rfl
 |case2 c r h=>intro _;rw[o3 r h];unfold c5;exact of_decide_eq_true rfl
 |case3 r h ab=>intro Z;rw[kb];exact yV (yU<|iO Z)<|ab<|pT (iO Z) (hV r).2
 |case4 c r h Y ab=>intro Z;rw[la r (by simpa using h) Y];have:=ab<|iO Z;unfold c5 at*;simp only[mem_cons,not_or];exact⟨fun e=>(Z c<|.head _).1 e.symm,this⟩
set_option tactic.hygienic true in
theorem Kq{s p}(Y:clean s)(h:cS s=.ok (some p)):c5 p.1:=by
 unfold cS at h;have Z:=pT Y<|o1 s;split at h
 .cases h
 .rename_i c r X;rw[X]at Z;split at h
  .unfold hs at h;rcases q:dd 1 r with _|k
   .rw[q]at h;cases h
   .
    rw[q]at h;dsimp only at h;split at h
    .cases h
    .cases h;exact fun W=>yW (iO Z)<|mem_of_mem_take W
  .split at h
   .unfold hW at h;rcases q:quoted r with _|k
    .rw[q]at h;cases h
    .
     rw[q]at h;dsimp only at h;split at h
     .cases h
     .cases h;exact Ko r _ (iO Z) q
   .cases h;exact Kp _ Z
theorem Kr{t}:∀{l:List aa},clean t->cO t=.ok l->∀e∈l,c5 e:=by
 induction t using rS with
 |case1 s e h=>intro l _ q;rw[kc h]at q;cases q
 |case2 s h=>intro l _ q;rw[gT h]at q;cases q;intro e Y;cases Y
 |case3 s p h ab=>
  intro l X q;rcases pk q with⟨_,rfl⟩|⟨W,V,a,b,rfl⟩
  .intro e Y;cases Y
  .rw[h]at a;cases a;intro e Y;rcases bU Y with g|g
   .exact Z g<|Kq X h
   .exact ab (pT X (mX h).2.2) b e g
theorem Ks(l):∀{d:bk},(∀e∈l,c5 e)->(∀p∈d,c5 p.1)->∀p∈fA d l,c5 p.1:=by
 induction l using nb with
 |hz=>exact fun O U=>U
 |zq1 x=>exact fun O U=>U
 |zq2 k v r ab=>intro d Y U;exact ab (fun e W=>Y e<|.tail _<|.tail _ W) fun p V=>(xB (List.mem_map_of_mem V:p.1∈(put k v d).map (·.1))).elim (fun q=>Z q<|Y k<|.head _) fun q=>(mem_map.mp q).elim fun z X=>aW X.2<|U z X.1
theorem Kt{t d}(Y:clean t)(h:a0 t=.ok d):∀p∈d,c5 p.1:=
 (nc h).elim fun l e=>Z e.2<|Ks l (Kr Y e.1) fun p X=>nomatch X
section
open PySem
section
variable{C:eW}{ax:Nat->Option (List V)}{n:Nat}{U:Option Nat}{P:a3 V}{E:a3 Nat}{h:ar}
theorem Ku(c:aQ C ax)(M:n<=84)(k:∀g X Z W V e I,Ext h V->h g=none->h X=none->h Z=none->h W=none->V g=some (.av [(c3,.Y X)] e)->V X=some (.an [.Y 167,.Y Z])->V Z=some (.an [.S c3,.Y W])->V W=some (.av eO I)->P (.Y g) V):C n none (.Y 680) [] P E h:=by refine c.fn rfl (af M) ?_;refine Km c (am M) fun W H G U L K=>?_;intro Z O;have T:=aw (o:=.an [.S c3,.Y W]) O;intro X N;have R:=aw (o:=.an [.Y 167,.Y Z]) N;intro e g J;have Q:=aw (o:=.av [(c3,.Y X)] e) J;exact k g X Z W _ e G (((U.trans T).trans R).trans Q) (((U.trans T).trans R).fresh J) ((U.trans T).fresh N) (U.fresh O) L (aD) (Q _ _<|aD) ((R.trans Q) _ _<|ar.at H Z _)<|((T.trans R).trans Q) _ _ K
def Kv(a b:Nat)(h Z:ar):Prop:=(∀z o,z≠a->z≠b->h z=some o->Z z=some o)/\∀z,Z z=none->h z=none
theorem Kw(c:aQ C ax)(O:n<=84){A g Q V e r p m}(X:h A.H=some (.dt 945 A.e1))(Z:h A.e1=some (.bK<|hD A 0 0 0))(l:h A.I=some (.av [] r))(U:h A.dn=some (.av [] p))(T:h A.eN=some (.av [] m))(J:h g=some (.av [(c3,.Y Q)] e))(W:h Q=some (.an [.Y 167,.Y V]))(G:A.dn≠A.eN)(n2:A.I≠A.dn)(n3:A.I≠A.eN)(j:g≠A.dn)(i:g≠A.eN)(k:∀bA N S,h bA=none->Kv A.dn A.eN h N->N A.dn=some (.av [(c3,.Y bA)] S)->N bA=some (.an [.Y 167,.Y V])->P .a5 N):C n none (.Y 928) [.Y A.H,.Y g] P E h:=by
 have B:A.H≠A.dn:=fun z=>by rw[z,U]at X;cases X
 have a0:A.H≠A.eN:=fun z=>by rw[z,T]at X;cases X
 have y:A.e1≠A.dn:=fun z=>by rw[z,U]at Z;cases Z
 have a1:A.e1≠A.eN:=fun z=>by rw[z,T]at Z;cases Z
 have a2:Q≠A.dn:=fun z=>by rw[z,U]at W;cases W
 have a3:Q≠A.eN:=fun z=>by rw[z,T]at W;cases W
 refine c.fn rfl (af O) ?_;refine gY J ?_;refine dA J (v:=.Y Q) rfl ?_;refine c.fn rfl (am O) ?_;refine c.wK W ?_;refine eY W ?_;refine pc X Z rfl (f:=914) rfl rfl ?_;refine c.fn rfl (am O) ?_;refine pc X Z rfl (f:=921) rfl rfl ?_;refine c.fn rfl (cW O) ?_;refine dB X Z (v:=.Y A.dn) rfl rfl eU ?_;refine lq U ?_;refine sh U (zero_le _) ?_;refine dB X Z (v:=.Y A.eN) rfl rfl eU ?_;refine lq T ?_;refine sh T (zero_le _) ?_;refine dB X Z (v:=.Y A.I) rfl rfl eU ?_;refine gX l ?_;intro bA R;have M:=aw (o:=.an [.Y 167,.Y V]) R;refine dB (M _ _ X) (M _ _ Z) (v:=.Y A.dn) rfl rfl eU ?_;refine eB (M _ _ U) (zero_le _) fun S=>?_;have x:bA≠A.dn:=(bv R U).symm;have w:bA≠A.eN:=(bv R T).symm;have L:∀{b o o'},b≠A.dn->h b=some o->((h.set bA (.an [.Y 167,.Y V])).set A.dn o') b=some o:=fun F q=>(bl F).trans<|M _ _ q;refine dB (L B X) (L y Z) (v:=.Y A.eN) rfl rfl eU ?_;refine eB (L G.symm T) (zero_le _) fun K=>?_;have D:∀{b o o' o''},b≠A.dn->b≠A.eN->h b=some o->(((h.set bA (.an [.Y 167,.Y V])).set A.dn o').set A.eN o'') b=some o:=fun F u q=>(bl u).trans<|L F q;refine⟨D j i J,?_⟩;refine k bA _ S R ⟨fun z o d a q=>D d a q,fun z q=>?_⟩ ((bl G).trans<|aD)<|(bl w).trans<|(bl x).trans<|aD;rcases hz:h z with _|o
 .rfl
 .
  exfalso;by_cases t:z=A.eN;subst t;have:(((h.set bA (.an [.Y 167,.Y V])).set A.dn (.av (put c3 (.Y bA) []) S)).set A.eN (.av (put c3 (.aP true) []) K)) A.eN=none:=q;rw[ar.at]at this;trivial;by_cases s:z=A.dn;subst s;have:(((h.set bA (.an [.Y 167,.Y V])).set A.dn (.av (put c3 (.Y bA) []) S)).set A.eN (.av (put c3 (.aP true) []) K)) A.dn=none:=q;rw[bl G,ar.at]at this;trivial;have:=D (o':=.av (put c3 (.Y bA) []) S) (o'':=.av (put c3 (.aP true) []) K) s t hz;have q':(((h.set bA (.an [.Y 167,.Y V])).set A.dn (.av (put c3 (.Y bA) []) S)).set A.eN (.av (put c3 (.aP true) []) K)) z=none:=q;rw[this]at q';trivial
noncomputable def pats:List aa:=[[42,49],[97,42],[63],jB,[98],[92,35],[]]
theorem Kx:∀p∈pats,dT p:=by intro p Z;have Y:∀p:aa,p.length<=1000->(∀i,i<p.length->p[i]?=some 91->p=jB/\i=0)->dT p:=fun p X W=>⟨X,fun i aj=>W i (List.getElem?_eq_some_iff.mp aj).1 aj⟩;simp only[pats,mem_cons,not_mem_nil,or_false]at Z;rcases Z with rfl|rfl|rfl|rfl|rfl|rfl|rfl<;>refine Y _ (by exact aL) ?_<;>exact aU
theorem tr{O bb}{l:cc}{K}(J:ar->Prop)(Q:V->Prop):∀(ad Y:List V)(h:ar),J h->(∀v∈ad,∀h,J h->∀cy:V->ar->Prop,(∀y X,J X->Q y->cy y X)->h0 O cy (some v::l) h)->(∀h,J h->dy bb h)->Y.length+ad.length<=16000000->(∀W X,J X->W.length=ad.length->(∀y∈W,Q y)->K (Y++W) X)->h1 O none bb l ad Y K h:=by
 intro ad;induction ad with
 |nil=>intro Y h S R P U k;have:=k [] h S rfl (fun y E=>by trivial);rw[append_nil]at this;exact this
 |cons v ad ab=>intro Y h S R P U k;simp only[length_cons]at U;refine R v (.head _) h S _ fun y X T I=>?_;refine⟨P X T,by exact((az 0x3d09000c181221005021e8480060808101) U),?_⟩;refine ab (Y++[y]) X T (fun w H=>R w<|.tail _ H) P (by exact Z length_append<|(az 0x3d09000c181221005021e8480060888120128101) U) fun W G N M L=>?_;have:=k (y::W) G N (by simp[M]) (fun z F=>by rcases bU F with g|g;exact Z g I;exact L z g);simpa using this
theorem Ky(c:aQ C ax)(T:n<=40){A M m D X V one K item Q i e b pa fT ny y0 y8}(x:aN A 0 M m D h)(R:m<=10)(J:cs X 60)(a1:cs V 60)(l1:cs one 3)(l2:cs K 3)(l3:cs item 3)(l4:cs Q 3)(b1:fT.natAbs<=10^33)(b2:ny.natAbs<=10^33)(a2:dT i)(a3:dT e)(a5:Loc D h b (.ag [.ae fT,.ae ny]))(a6:Loc D h pa (.ag [.S i,.S e]))(k:∀h',P (.aP true) h'):
  run (eh C ax<|n+1) none (cf<|mU.body.drop 9) (jf P) (jg P) (jh E) [] [some y0,some<|.S X,some<|.S V,some<|.S one,some<|.S K,some<|.S item,some<|.S Q,some<|.Y b,some y8,some<|.Y pa,some<|.Y A.H,none] h:=by
 have W:X.length<=60:=J.1;have a7:V.length<=60:=a1.1;have bq:=l1.1;have eq:=l2.1;have gI:=l3.1;have qq:=l4.1;refine Jd c (am T) x (af R) (af W) (af bq) (af eq) (af gI) fun h1 D1 M1 x1 s1=>?_;refine JI c (am T) x1 (am R) (af W) (af bq) (af eq) (af gI) (af qq) b1 b2 (s1.loc a5) fun h2 D2 M2 x2 s2=>?_;have B:=(s1.trans s2).loc a6;intro q hq;have e1:=aw (o:=.ag [.S hJ,.S X]) hq;refine fX c (am T) (f:=484) rfl ((IX c (cW T)<|af W).cmd fun er he=>I9 he) (x2.ext e1) (x2.new hq) (by exact succ_pos _) fun z h3 D3 M3 y x3 s3 r3=>?_;cases y;have a8:=(au.ext (D:=D2) e1).trans s3;refine JO c (am T) x3 (by exact((az 0x3c0c4478285042020430d404488f0579039c83100928102) R W)) (af W) (af a7) r3 fun h4 D4 M4 u s4=>?_;have N:=r3.cv s4;have t:=(a8.trans s4).loc B;rcases U:a0 X with er|d
 .
  have s:g1 X=.error er:=by exact a4 U
  rw[s]at N;have a9:=N;refine a9.elim fun ac aa=>?_;refine cC aa.1.2 (v:=.ae 1) rfl ?_;intro mq I;have z1:=aw (o:=.ag [.S hC]) I;intro tq G;have r:=aw (o:=.an [.S g3,.Y mq]) G;intro sq F;have L:=aw (o:=.ag [.Y tq]) F;have v1:=u.ext z1;have v2:=v1.ext r;have v3:=v2.ext L;refine pC c (am T) (sub:=g3) (f:=645) (more:=[.S hC]) (y:=X) (W:=X) rfl (J1 c (cW T) (by exact((az 0xf03111e0a141080810927c028604d04223c15e40e720c4024928102) R W)) (by rfl) (af W) U) v3 (by exact((az 0xf03111e0a141080810dbba028604d04223c15e40e720c4024928102) R W)) (by exact((az 0x3c0c4478285042020436ee80a181302682111e0af207390620124928102) R W)) (v2.new F) ((au.ext L).loc<|v1.new G) ((au.ext<|r.trans L).loc<|u.new I) (by exact succ_pos _) (fun M' y=>by exact Z y rfl) fun a g h5 D5 M5 O p l la rg=>?_;have r5:=N.cv<|(au.ext (D:=D4)<|(z1.trans r).trans L).trans l;intro w hw;have j:=aw (o:=.an [.Y z,.S X]) hw;have lw:=p.new (o:=.an [.Y z,.S X]) hw;refine⟨_,_,nC ((au.ext j).loc la)<|rg.cv<|au.ext j,nC lw<|r5.cv<|au.ext j,d9 _,?_⟩;rw[eb];exact k _
 .
  have s:g1 X=.ok (bg d):=by exact a4 U
  rw[s]at N;have ab:Loc D4 h4 z (.an [.ae 0,.S (bg d)]):=N;refine cC ab.2 (v:=.ae 0) rfl<|JS c (am T) u U (af W) a2 a3 t fun h5 D5 p l=>?_;refine Kc c (am T) p (by exact((az 0x1e06222d070a084040861a8026447819d04223c15e40e720c4024928102) R W)) U (af W) (af bq) (af eq) (af gI) (Kt (yS J) U) (yW<|yS l1) (l.loc ab) fun h6 D6 M6 m6 x6 s6=>?_;exact k h6
set_option maxHeartbeats 2000000 in
theorem Kz(c:aQ C ax)(e:n<=40){u Q one a0 item H p1 p2 na pa fT ny y0 y8}(a7:cs u 60)(a8:cs Q 60)(l1:cs one 3)(l2:cs a0 3)(l3:cs item 3)(l4:cs H 3)(bc:fT.natAbs<=10^33)(bd:ny.natAbs<=10^33)(a9:dT p1)(aa:dT p2)(ab:h na=some (.ag [.ae fT,.ae ny]))(ac:h pa=some (.ag [.S p1,.S p2]))(k:∀h',P (.aP true) h'):
  run (eh C ax<|n+1) none (cf<|mU.body.drop 6) (jf P) (jg P) (jh E) [] [some y0,some<|.S u,some<|.S Q,some<|.S one,some<|.S a0,some<|.S item,some<|.S H,some<|.Y na,some y8,some<|.Y pa,none,none] h:=by
 refine Kk c (am e) fun a d T I K X W e1 bm e3 e4 e5 h8 ad fa fd be af ah ai fI aC oa od ba oI a1 t s=>?_;simp only[nodup_cons,mem_cons,not_mem_nil,or_false,not_or,not_false_eq_true,nodup_nil,and_true]at aC;obtain⟨⟨aj,r,bf,ak,al,an⟩,⟨G,bg,ao,a2,ap⟩,⟨aq,m,F,D⟩,⟨bh,ar,as⟩,⟨a3,au⟩,aw⟩:=aC;refine dB oa od (v:=.Y T) rfl rfl eU<|eB ba (zero_le _) fun e6=>?_;have O:∀{b o},b≠T->h8 b=some o->(h8.set T (.av (put sH (.Y 989) []) e6)) b=some o:=fun hb q=>(bl hb).trans q;refine pc (O r oa) (O G od) rfl (f:=928) rfl rfl<|Ku c (am e) fun g tu j B h9 e7 e8 a4 fg bi bj i og ay N az=>?_;have y:∀{b o},b≠T->h8 b=some o->h9 b=some o:=fun hb q=>a4 _ _<|O hb q;have a5:=y (Ne.symm F) t;have a6:=y (Ne.symm D) s;refine Kw (A:=⟨a,d,T,I,K,X,W,0,0,0⟩) c (am e) (y r oa) (y G od) (y (Ne.symm aq) oI) a5 a6 og ay aw ar as (bv fg<|O (Ne.symm F) t).symm (bv fg<|O (Ne.symm D) s).symm fun bA M e9 bk xc b0 L=>?_;have g2:∀{b o},b≠X->b≠W->h9 b=some o->M b=some o:=fun h1 h2 q=>xc.1 _ _ h1 h2 q;have g3:∀{b o},b≠T->b≠X->b≠W->h8 b=some o->M b=some o:=fun h0 h1 h2 q=>g2 h1 h2<|y h0 q;have b1:j≠X:=fun z=>by rw[z,a5]at N;cases N
 have b2:j≠W:=fun z=>by rw[z,a6]at N;cases N
 have b3:B≠X:=(bv i<|O (Ne.symm F) t).symm;have b4:B≠W:=(bv i<|O (Ne.symm D) s).symm;have b5:B≠K:=(bv i<|O (Ne.symm m) a1).symm;have b6:h9 T=some (.av (put sH (.Y 989) []) e6):=a4 _ _<|aD;have J:=g3 (Ne.symm m) a3 au a1;have U:=g3 G a2 ap od;have Z:=g2 b1 b2 N;have R:=g2 b3 b4 az;have b7:cI ⟨a,d,T,I,K,X,W,bA,j,B⟩ 0 [] M:=
  {host:=g3 r al an oa
   dict:=⟨0,0,U⟩
   e2:=⟨e6,g2 F D b6⟩
   vars:=⟨e3,J⟩
   eP:=⟨e9,b0⟩
   tup:=L
   data:=Z
   subs:=⟨e8,R⟩
   each:=fun p hp=>by trivial
   aC:=by simp[cU,ao]
   names:=.nil
   st:=fun x hx=>by
    simp only[stats,mem_cons,not_mem_nil,or_false]at hx;simp only[cU,map_nil,mem_cons,not_mem_nil,or_false,not_or];rcases hx with rfl|rfl|rfl|rfl|rfl|rfl
    .exact⟨aj,ak⟩
    .exact⟨(Ne.symm G),m⟩
    .exact⟨(Ne.symm a2),(Ne.symm a3)⟩
    .exact⟨(fun z=>by rw[z,U]at L;cases L),(fun z=>by rw[z,J]at L;cases L)⟩
    .exact⟨(fun z=>by rw[z,U]at Z;cases Z),(fun z=>by rw[z,J]at Z;cases Z)⟩
    .exact⟨(fun z=>by rw[z,U]at R;cases R),b5⟩}
 have b8:aN ⟨a,d,T,I,K,X,W,bA,j,B⟩ 0 (gC []) 0 [d,K] M:=⟨[],b7,Nat.le_refl _,rfl,rfl⟩;have locs:∀{z:Nat}{l:List V},h z=some (.ag l)->Loc [d,K] M z (.ag l):=fun{z l} w=>by have zT:z≠T:=bv be w;have zC:z≠X:=bv ah w;have zF:z≠W:=bv ai w;refine⟨?_,g3 zT zC zF<|ad _ _ w⟩;simp only[mem_cons,not_mem_nil,or_false,not_or];exact⟨bv fd w,bv af w⟩
 have b9:=locs ab;have bb:=locs ac;exact Ky (A:=⟨a,d,T,I,K,X,W,bA,j,B⟩) (y0:=y0) (y8:=y8) c e b8 (zero_le _) a7 a8 l1 l2 l3 l4 bc bd a9 aa b9 bb k
set_option maxHeartbeats 4000000 in
theorem KA(c:aQ C ax)(W:n<=40){sa}{xs:List Int}(T:ax sa=some (xs.map .ae))(M:xs.length<=1000)(k:∀U,P (.aP true) U):aR.go (eh C ax<|n+1) none mU [.Y sa] P E h:=by
 refine⟨.inl<|aL,?_⟩;refine⟨.inl<|aL,?_⟩;refine⟨.inl<|aL,?_⟩;refine nI c (am W) (W:=0) T M fun v0=>?_;refine yR c (am W) fun av h1 x1 a3=>?_;refine⟨.inl<|aL,?_⟩;refine⟨.inl<|aL,?_⟩;refine nI c (am W) (W:=1) T M fun v1=>?_;refine yR c (am W) fun a5 h2 x2 a6=>?_;have x2:Ext h h2:=x1.trans x2;refine c.iC (Int.NonNeg.mk _) (bQ) fun r1 a7=>?_;have x3:Ext h (h2.set r1 (.range 0 4)):=x2.trans<|aw a7;refine sj (aD) ?_;refine tr (fun U=>Ext (h2.set r1<|.range 0 4) U) (fun y=>∃t,y=.S t/\cs t 3) _ [] _ Ext.rfl (fun v Z U R cy L=>?_) (fun O O=>trivial) (aL) fun ys h3 R a8 Q=>?_
 .have x:=T;obtain⟨i,aj,rfl⟩:∃i:Nat,i<4/\v=.ae i:=by
   change v∈[V.ae 0,.ae 1,.ae 2,.ae 3]at Z;simp only[mem_cons,not_mem_nil,or_false]at Z;rcases Z with rfl|rfl|rfl|rfl
   .exact⟨0,succ_pos _,rfl⟩
   .exact⟨1,aL,rfl⟩
   .exact⟨2,aL,rfl⟩
   .exact⟨3,lt_succ_self _,rfl⟩
  obtain⟨own,hown⟩:∃own:Int,c9 (i:Int) [V.ae 0,.ae 1,.ae 5,.ae 2]=some (.ae own):=by
   rcases i with _|_|_|_|i
   .exact⟨0,rfl⟩
   .exact⟨1,rfl⟩
   .exact⟨5,rfl⟩
   .exact⟨2,rfl⟩
   .exact absurd (Nat.lt_of_add_lt_add_right (n:=4) (k:=i) (m:=0) aj)<|not_lt_zero _
  intro q hq;have xq:=aw (o:=.ag [.ae 0,.ae 1,.ae 5,.ae 2]) hq;refine eA (aD) hown cL ((aF 0x80c808118000000000000000fc808171) aj)<|nI c (cW W) T M fun v=>?_;refine Kd c (cW W) fun t ay a9 lt=>?_;exact L _ _ ((R.trans xq).trans a9) ⟨t,rfl,lt⟩
 obtain⟨y1,y2,y3,y4,rfl⟩:er fun y1 y2 y3 y4=>ys=[y1,y2,y3,y4]:=by rcases ys with _|⟨a,_|⟨b,_|⟨c',_|⟨d,_|⟨e,r⟩⟩⟩⟩⟩<;>first|exact⟨_,_,_,_,rfl⟩|cases a8
 refine(Q y1<|.head _).elim fun one u=>?_;obtain rfl:=u.1;refine(Q y2<|.tail _<|.head _).elim fun s p=>?_;obtain rfl:=p.1;refine(Q y3<|.tail _<|.tail _<|.head _).elim fun item l=>?_;obtain rfl:=l.1;refine(Q y4<|.tail _<|.tail _<|.tail _<|.head _).elim fun N j=>?_;obtain rfl:=j.1;have x4:Ext h h3:=x3.trans R;intro z1 aa;have x5:=x4.trans<|aw (o:=.ag [.S one,.S s,.S item,.S N]) aa;refine Ha (aD) ?_;refine c.iC (Int.NonNeg.mk _) (bQ) fun r2 ab=>?_;have x6:=x5.trans<|aw (o:=.range 0 2) ab;refine sj (aD)<|tr (fun U=>Ext ((h3.set z1<|.ag [.S one,.S s,.S item,.S N]).set r2<|.range 0 2) U) (fun y=>∃t:Int,y=.ae t/\t.natAbs<=10^33) _ [] _ Ext.rfl (fun v Z U R cy L=>?_) (fun O O=>trivial) (aL) fun aI A ac ad g=>?_
 .have x:=T;obtain⟨i,aj,rfl⟩:∃i:Nat,i<4/\v=.ae i:=by
   change v∈[V.ae 0,.ae 1]at Z;simp only[mem_cons,not_mem_nil,or_false]at Z;rcases Z with rfl|rfl
   .exact⟨0,succ_pos _,rfl⟩
   .exact⟨1,aL,rfl⟩
  refine⟨.inl<|aL,?_⟩;refine nI c (cW W) T M fun v=>?_;refine Kf c (cW W) fun t lt=>?_;exact L _ _ R ⟨t,rfl,lt⟩
 obtain⟨K,J,rfl⟩:bs fun K J=>aI=[K,J]:=by rcases aI with _|⟨a,_|⟨b,_|⟨d,r⟩⟩⟩<;>first|exact⟨_,_,rfl⟩|cases ad
 refine(g K<|.head _).elim fun fT I=>?_;obtain rfl:=I.1;refine(g J<|.tail _<|.head _).elim fun z H=>?_;obtain rfl:=H.1;have x7:Ext h A:=x6.trans ac;intro na af;have e8:=aw (o:=.ag [.ae fT,.ae z]) af;have x8:=x7.trans e8;have ah:=ar.at A na<|.ag [.ae fT,.ae z];intro kn ai;have e9:=aw (o:=.ag<|pats.map .S) ai;have x9:=x8.trans e9;have ak:=ar.at (A.set na<|.ag [.ae fT,.ae z]) kn<|.ag<|pats.map .S;refine c.iC (Int.NonNeg.mk _) (bQ) fun r3 al=>?_;have G:=aw (o:=.range 0 2) al;have az:=x9.trans G;refine sj (aD)<|tr (fun U=>Ext (((A.set na<|.ag [.ae fT,.ae z]).set kn<|.ag<|pats.map .S).set r3<|.range 0 2) U) (fun y=>∃t,y=.S t/\dT t) _ [] _ Ext.rfl (fun v Z U R cy L=>?_) (fun O O=>trivial) (aL) fun ps h6 an ao f=>?_
 .have x:=T;have ap:=R _ _<|G _ _ ak;obtain⟨i,aj,rfl⟩:∃i:Nat,i<4/\v=.ae i:=by
   change v∈[V.ae 0,.ae 1]at Z;simp only[mem_cons,not_mem_nil,or_false]at Z;rcases Z with rfl|rfl
   .exact⟨0,succ_pos _,rfl⟩
   .exact⟨1,aL,rfl⟩
  conv=>whnf
  refine nI c (cW W) T M fun v=>?_;refine⟨aU,?_⟩;refine(pR pats v 7 rfl<|bQ).elim fun w X=>?_;have F:=X.2.1;have a0:c9 (v.fmod 7) (pats.map V.S)=some (.S w):=by unfold c9 at F⊢;rw[if_neg<|Int.not_lt.mpr X.2.2.1]at F⊢;exact List.getElem?_map.trans<|a4 F
  exact eA ap a0 (jS X.2.2.1 rfl) (jR X.2.2.2 rfl)<|L _ _ R ⟨w,rfl,Kx w X.1⟩
 obtain⟨KD,m4,rfl⟩:bs fun K J=>ps=[K,J]:=by rcases ps with _|⟨a,_|⟨b,_|⟨d,r⟩⟩⟩<;>first|exact⟨_,_,rfl⟩|cases ao
 refine(f KD<|.head _).elim fun p1 D=>?_;obtain rfl:=D.1;refine(f m4<|.tail _<|.head _).elim fun p2 B=>?_;obtain rfl:=B.1;have a1:=an _ _<|G _ _<|e9 _ _ ah;intro pa aq;have as:=aw (o:=.ag [.S p1,.S p2]) aq;have au:=ar.at h6 pa<|.ag [.S p1,.S p2];have a2:=as _ _ a1;exact Kz (n:=n) c W a3 a6 u.2 p.2 l.2 j.2 I.2 H.2 D.2 B.2 a2 au k
end
end
section
open PySem PySem.Calls PyProof.Rows PySem.W
open Hq (K0)
theorem KG{H:Heap}(n):(∃(a:Nat)(o:Obj),a<n/\H.get? a=some o)->∃(t:Nat)(o:Obj),t<n/\H.get? t=some o/\∀b:Nat,t<b->b<n->H.get? b=none:=by
 induction n with
 |zero=>exact fun h=>h.elim fun a h=>h.elim fun o h=>absurd h.1<|not_lt_zero _
 |succ n ab=>
  intro h;rcases q:H.get? n with _|x
  .refine h.elim fun a h=>h.elim fun o h=>?_;have Z:a<n:=Nat.lt_of_le_of_ne (le_of_lt_succ h.1) fun e=>no<|q.symm.trans (e▸h.2);refine(ab ⟨a,o,Z,h.2⟩).elim fun t z=>z.elim fun x z=>⟨t,x,lt_succ_of_lt z.1,z.2.1,fun b Y X=>?_⟩;by_cases c:b=n;exact c▸q;exact z.2.2 b Y<|Nat.lt_of_le_of_ne (le_of_lt_succ X) c
  .exact⟨n,x,lt_succ_self n,q,fun b W V=>absurd W<|Nat.not_lt_of_le<|le_of_lt_succ V⟩
theorem KH{H:Heap}{a:Nat}{o}(h:H.get? a=some o):∃h₀:Heap,(∀b,h₀.get? b=H.get? b)/\h₀.objs.size<=H.objs.size/\∃t o,h₀.get? t=some o/\h₀.objs.size=t+1:=by
 refine(KG H.objs.size ⟨a,o,Heap.lt_size h,h⟩).elim fun t z=>z.elim fun x z=>?_;have Z:(H.objs.extract 0 (t+1)).size=t+1:=Array.size_extract.trans<|Nat.min_eq_left z.1;have Y:∀b:Nat,(⟨H.objs.extract 0 (t+1),H.life⟩:Heap).get? b=H.get? b:=fun b=>by
  by_cases c:b<t+1
  .have e:(H.objs.extract 0 (t+1))[b]?=H.objs[b]?:=by rw[Array.getElem?_extract,if_pos<|by rw[Nat.min_eq_left z.1];exact c];simp
   unfold Heap.get?;rw[e]
  .have e:(H.objs.extract 0 (t+1))[b]?=none:=Array.getElem?_eq_none<|bp (Nat.le_of_eq Z)<|Nat.le_of_not_lt c;have n:H.get? b=none:=by
    rcases Nat.lt_or_ge b H.objs.size with d|d
    .exact z.2.2 b (Nat.lt_of_not_le fun g=>c<|lt_succ_of_le g) d
    .rcases q:H.get? b with _|y
     .rfl
     .exact absurd (Heap.lt_size q)<|Nat.not_lt.mpr d
   rw[n];unfold Heap.get?;rw[e]
 exact⟨_,Y,bp (Nat.le_of_eq Z) z.1,t,x,(Y t).trans z.2.1,Z⟩
theorem law_call{w s i2 hi A Y items}{xs:List Int}{prog}(X:(K0 w.params).In s.heap)(I:s.heap.Ns mainGlobals i2)(H:s.heap.Ns builtinsNs hi)(Q:s.heap.NoLimit)(P:∀x:Str,x≠Str.ofString "__name__"->hi x=bootBuiltins x)(G:ru [] A none)(N:s.heap.IsList Y items)(F:bo items.toList=xs.map .ae)(D:xs.length<=1000):
  codeAny (model prog w) A (.call (.ref 1055) ⟨[.ref Y],[]⟩) (fun r W=>r=.ok (.ret<|.bool true)/\W.gens=s.gens/\W.os=s.os/\∀b o,s.heap.get? b=some o->W.heap.get? b=some o) s:=by
 obtain⟨p,M,_⟩:=id N;obtain⟨h₀,L,C,t0,y,R⟩:=KH M;have Z:∀b o,s.heap.get? b=some o->h₀.get? b=some o:=fun b o e=>(L b).trans e;have J:∀b o,h₀.get? b=some o->s.heap.get? b=some o:=fun b o e=>(L b).symm.trans e
 let B:bY:=⟨prog,w,h₀,s.gens,s.drawn,s.os,i2,hi,⟨t0,y,R⟩⟩
 let ax:Nat->Option (List V):=fun a=>if a=Y then some (xs.map .ae)else none
 have T:(K0 w.params).In B.h₀:=X.keeps Z;have S:dl B:=⟨Q.keeps Z,I.keeps Z,H.keeps Z⟩;have x:gw B (fe w.params ax):=GH w.params (fun a m h=>by
  by_cases e:a=Y;subst e;obtain⟨o,u,r⟩:=N;exact⟨items,⟨o,Z _ _ u,r⟩,by rw[F];simpa[ax]using h⟩
  .simp[ax,e]at h) S T (GZ w.params T S.ur P) (r5 _) (GI _)
 have c:=a7 w.params x T;obtain⟨l,body,aI,t,j,q⟩:=oX (B:=B) T<|Fr w.params;refine codeAny_mono (vX (n:=0) (K:=fun v O=>v=.aP true) (E:=fun O O=>False) (h:=fun O=>none) (ups:=[]) (prot:=[]) x q rfl (zero_le _) (U:=none) (fun O h=>nomatch h) rfl G
  (m2 m3<|KA c (zero_le _) (sa:=Y) (xs:=xs) (by simp[ax]) D fun O=>rfl) ⟨rfl,rfl,rfl⟩
  ⟨C,J,fun O O e=>(nomatch e),fun O e=>(nomatch e),.nil,.nil,fun O e=>(nomatch e)⟩) fun r W e=>?_
 cases r with
 |ok f=>
  cases f with
  |ret v=>obtain⟨h,st,r,k⟩:=e;exact⟨by rw[kY k],st.1,st.2.2,fun b o e=>r.keep b o<|Z b o e⟩
  |_=>exact e.elim
 |error=>exact e.elim fun O O z=>z.5.elim
theorem ints_toVs{ad aI}(h:IntsAre ad aI):bo ad=aI.map .ae:=by
 induction h with
 |nil=>rfl
 |cons n t _ ab=>simp only[bo,map_cons]at ab⊢;rw[ab];rfl
end
end Mine.Internal
end
open PySem PySem.W PyProof.Rows
set_option maxHeartbeats 8000000
theorem PySem.Challenge.cw_pb0576_01_holds : PySem.Challenge.rw_pb0576_01.Holds :=
  Mine.Internal.Hq.hd0 (by
  intro w s₀ s₁ mg mb G Y fa o pm cd doc dV kV ho hd hcd hD hmg hg args vals as hpre hlay hrd hwl hlo;have KX : (Mine.Internal.Hq.K0 w.params).In s₁.heap := Y;have hn : Mine.Internal.Hq.dL.name = Str.ofString "law" := by kernel_rfl
  rw [hn] at hmg;clear ho hd hcd hD;refine Ground.open G ?_;intro T B D TE TW;have T1 := T.g;have T2 := T.b;have T3 := T.nolimit;have T4 := T.builtins;clear T B D TE TW G;have e := mg_of KX T1 (n := Str.ofString "law") (v := .ref 1055) (by kernel_rfl);have e' := hmg.symm.trans e;clear e hmg;cases e'
  wrow_args hpre hlay hrd hwl hlo
  refine enter_call ?_
  (with_reducible rename IntsAre _ _ => hI)
  (with_reducible rename Heap.IsList _ _ _ => hL)
  (with_reducible rename (¬ _ < _) => hc)
  refine codeAny_mono (Mine.Internal.law_call KX T1 T2 T3 T4 ⟨rfl, rfl, rfl, by decide, by decide⟩ hL (Mine.Internal.ints_toVs hI) (by omega)) fun r s' q => ?_;obtain ⟨rfl, h2, h3, h4⟩ := q;refine ⟨.inl ⟨.bool true, .bool true, [], rfl, fun O => rfl, .bool true, by wrow_post, fun O => ⟨.nil, fun O h => nomatch h⟩⟩, .of_keep h4, h3, .of_eq (h2.trans hg)⟩)
