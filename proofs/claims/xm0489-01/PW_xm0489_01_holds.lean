import PyProof.Rows.All
import PyProof.Raises
import PyProof.FactsAll.dict_0
import PyProof.FactsAll.dict_3
import PyProof.NoPylong
import PyProof.AutoSeq1
import PyProof.ForAny
import PyProof.Cells
import PyProof.CompUse
import PyProof.ConsumeWalk
import PyProof.CompFree
import PyProof.DefCall
import PyProof.MeetsSeq
import PyProof.DictCalls
import PyProof.DictDisplay
import PyProof.DictRoadsH
import PyProof.EqLayable
import PyProof.WalksMore
import PyProof.RangeFor
import PyProof.IsiPairs
import PyProof.P3In
import PyProof.Rows.TupAssign
import PyProof.Rows.StrTemp
import PyProof.Rows.TupMore
import PyProof.SliceMore
import PyProof.Rows.TupAdd
import PyProof.TupleOfSeq
import PyProof.Rows.ExtendIn
import OpenK.KMake
import OpenK.KCls
import Open.Head
import Open.Line
import OpenK.KWalk
import Open.Boot
import OpenK.KLaw
import KE.KDictSum
import KE.KPar
import KE.KRevSl
import Open.Tops
import OpenK.AllK
import Wide.All
import PySem.Challenge.RW_xm0489_01
set_option maxRecDepth 100000
set_option linter.all false
set_option Elab.async false
set_option autoImplicit false
set_option genSizeOf false
set_option genInjectivity false
set_option maxHeartbeats 0
set_option tactic.hygienic false
set_option backward.match.sparseCases false
namespace Mine
section
set_option autoImplicit true
open PySem
theorem Ab{a b:Bool}(h:(a&&b)=true):a=true∧b=true:=Bool.and_eq_true_iff.mp h
theorem Yx{a b:Bool}(h:a=true∧b=true):(a&&b)=true:=Bool.and_eq_true_iff.mpr h
theorem Ho{a b:Bool}(h:(a||b)=true):a=true∨b=true:=Bool.or_eq_true_iff.mp h
theorem Bu{a b:Nat}(h:Nat.beq a b=true):a=b:=Nat.eq_of_beq_eq_true h
theorem Cd{α:Type}{a b:α}(h:some a=some b):a=b:=Option.some.inj h
theorem Be{α:Type}{p:α→Bool}{l:List α}(h:l.all p=true):∀x,x∈l→p x=true:=List.all_eq_true.mp h
theorem En{m n:Nat}(h:m<n):m∈List.range n:=List.mem_range.mpr h
theorem Hd{α:Type}{a b:α}(h:a∈[b]):a=b:=List.mem_singleton.mp h
theorem M0{α:Type}{p:α→Bool}{l:List α}{x:α}(h:x∈l.filter p):x∈l∧p x=true:=List.mem_filter.mp h
theorem oR{α:Type}{p:α→Bool}{l:List α}{x:α}(h:x∈l∧p x=true):x∈l.filter p:=List.mem_filter.mpr h
theorem Mw{α:Type}{b:α}{l:List α}{a:α}(h:a∈b::l):a=b∨a∈l:=List.mem_cons.mp h
theorem Qe{α:Type}{p:α→Bool}{l:List α}(h:∃x,x∈l∧p x=true):l.any p=true:=List.any_eq_true.mpr h
theorem eY{α:Type}{p:α→Bool}{l:List α}(h:l.any p=true):∃x,x∈l∧p x=true:=List.any_eq_true.mp h
theorem aG{α β:Type}{b:β}{f:α→β}{l:List α}(h:b∈l.map f):∃a,a∈l∧f a=b:=List.mem_map.mp h
theorem dU{α:Type}{i:Nat}{a:α}{l:List α}(h:l[i]?=some a):∃h,l[i]=a:=List.getElem?_eq_some_iff.mp h
theorem oT{b:Bool}(h:b≠true):b=false:=Bool.eq_false_iff.mpr h
theorem rH{α β:Type}{b:β}{x:Option α}{f:α→β}(h:Option.map f x=some b):∃a,x=some a∧f a=b:=Option.map_eq_some_iff.mp h
theorem rI{α β:Type}{b:β}{x:Option α}{f:α→Option β}(h:x.bind f=some b):∃a,x=some a∧f a=some b:=Option.bind_eq_some_iff.mp h
theorem sB{α:Type}{a:α}{s t:List α}(h:a∈s++t):a∈s∨a∈t:=List.mem_append.mp h
theorem nnI{α:Type}{o:Option α}(h:∀a,o≠some a):o=none:=Option.eq_none_iff_forall_ne_some.mpr h
theorem nS{α:Type} [BEq α] [LawfulBEq α]{a b:α}(h:a≠b):(a==b)=false:=beq_eq_false_iff_ne.mpr h
theorem Ag{a b c:Nat}(h:a≤b)(g:b≤c):a≤c:=Nat.le_trans h g
theorem Sc{a b:Nat}(h:a≤b):Nat.ble a b=true:=Nat.ble_eq.mpr h
theorem Vp{a b:Nat}(h:Nat.blt a b=true):a<b:=Nat.blt_eq.mp h
inductive V where
 |d(x:PyData)
 |o(k:Nat)
inductive MO where
 |inst(c:Nat)(fs:List (Str×V))
 |lst(xs:List V)
 |dct(es:List (PyData×V))
 |tab(es:List (PyData×V))
inductive SK where
 |val|own|bor
inductive Kd where
 |cl|al (x:Str)|fr
noncomputable abbrev RV:=V×Kd
noncomputable abbrev A1:=List (Str×SK×V)
noncomputable abbrev Sg:=List MO
inductive Fl where
 |nx|cont|ret (r:RV)
noncomputable def sI:List Nat→List Nat→Bool
 |[],[]=>true
 |a::x,b::y=>match Nat.beq a b with|true=>sI x y|false=>false
 |_,_=>false
noncomputable def sq(a b:Str):Bool:=sI a.cps.toList b.cps.toList
noncomputable def lk{α:Type}(x:Str):List (Str×α)→Option α
 |[]=>none
 |(y,v)::r=>match sq x y with|true=>some v|false=>lk x r
noncomputable def up{α:Type}(x:Str)(v:α):List (Str×α)→List (Str×α)
 |[]=>[(x,v)]
 |(y,u)::r=>match sq x y with|true=>(y,v)::r|false=>(y,u)::up x v r
noncomputable def Xu(x:Str):List Str→Bool
 |[]=>false
 |y::r=>match sq x y with|true=>true|false=>Xu x r
noncomputable def o1{α β:Type}(a:Option α)(f:α→Option β):Option β:=match a with
 |none=>none
 |some x=>f x
noncomputable def iB{β:Type}(b:Bool)(x:Option β):Option β:=match b with
 |true=>x
 |false=>none
noncomputable def I1:Nat:=8388608
noncomputable def room(n:Nat):Bool:=Nat.ble n 8388608
noncomputable def Dv(x:PyData):Bool:=x.canLay0&&decide (x.depth≤60)
noncomputable def tru:PyData→Option Bool
 |.none=>some false
 |.bool b=>some b
 |.int i=>some (i !=0)
 |.str _=>none
 |.list xs=>some (!xs.isEmpty)
 |.tuple xs=>some (!xs.isEmpty)
 |.dict xs=>some (!xs.isEmpty)
noncomputable def Qk:V→Option Bool
 |.d x=>tru x
 |.o _=>none
noncomputable def Fu:List PyData→Option (List Bool)
 |[]=>some []
 |.bool i::r=>match Fu r with|some l=>some (i::l)|none=>none
 |_::_=>none
noncomputable def Lx:PyData→Bool
 |.int _=>true
 |.str _=>true
 |_=>false
noncomputable def wL(i:Int)(n:Nat):Option Nat:=
 match decide (0≤i)with
 |true=>match decide (i<n)with|true=>some i.toNat|false=>none
 |false=>match decide (0≤i+n)with|true=>some (i+n).toNat|false=>none
noncomputable def Lb(k:PyData):List (PyData×PyData)→Option PyData
 |[]=>none
 |(a,v)::r=>match PyData.eqv a k with|true=>some v|false=>Lb k r
noncomputable def La(k v:PyData):List (PyData×PyData)→List (PyData×PyData)
 |[]=>[(k,v)]
 |(a,u)::r=>match PyData.eqv a k with|true=>(a,v)::r|false=>(a,u)::La k v r
noncomputable def Cw(k:PyData):List (PyData×V)→Option V
 |[]=>none
 |(a,v)::r=>match PyData.eqv a k with|true=>some v|false=>Cw k r
noncomputable def Il(k:PyData)(v:V):List (PyData×V)→List (PyData×V)
 |[]=>[(k,v)]
 |(a,u)::r=>match PyData.eqv a k with|true=>(a,v)::r|false=>(a,u)::Il k v r
noncomputable def loN(lo:Option Int)(n:Nat):Nat:=lo.elim 0 (clipAt n)
noncomputable def hiN(hi:Option Int)(n:Nat):Nat:=hi.elim n (clipAt n)
noncomputable def slc{α:Type}(xs:List α)(lo hi:Option Int):List α:=(xs.drop (loN lo xs.length)).take (hiN hi xs.length-loN lo xs.length)
noncomputable def Jl(i:Int)(n:Nat):Nat:=Builtin.Slice.slicePlaces 0 (Builtin.Slice.sliceAdjust none (some i) 1 n).2 1
noncomputable def K3:List PyData→Option (List Int)
 |[]=>some []
 |.int i::r=>match K3 r with|some l=>some (i::l)|none=>none
 |_::_=>none
noncomputable def ins(i:Int):List Int→List Int
 |[]=>[i]
 |j::r=>match decide (j≤i)with|true=>j::ins i r|false=>i::j::r
noncomputable def Q1:List Int→List Int
 |[]=>[]
 |i::r=>ins i (Q1 r)
noncomputable def srt(xs:List PyData):Option (List PyData):=
 match K3 xs with
 |some l=>match Nat.ble l.length 60 with|true=>some ((Q1 l.reverse).map PyData.int)|false=>none
 |none=>match xs with
  |[.str s]=>some [.str s]
  |_=>none
noncomputable def rng(n:Int):List PyData:=(List.range n.toNat).map λ(i:Nat)=>PyData.int i
noncomputable def D07(a b:PyData):Option (PyData×Bool):=match a with
 |.int a=>match b with
  |.int b=>some (.int (a+b),false)
  |_=>none
 |.tuple a=>match b with
  |.tuple b=>iB (room (a++b).length) (some (.tuple (a++b),false))
  |_=>none
 |.list a=>match b with
  |.list b=>iB (room (a++b).length) (some (.list (a++b),true))
  |_=>none
 |_=>none
noncomputable def opI(op:Operator)(a b:Int):Option Int:=match op with
 |.FloorDiv=>iB (decide (0<b∧b<1073741824)) (some (Int.fdiv a b))
 |.Mod=>iB (decide (0<b)) (some (Int.fmod a b))
 |.Mult=>iB (decide (a.natAbs<2^40∧b.natAbs<2^40)) (some (a*b))
 |.Pow=>iB (decide (a=2∧0≤b∧b≤64)) (some (2^b.toNat))
 |.BitAnd=>some (Builtin.bitAnd a b)
 |_=>none
noncomputable def C80(a:PyData):PyData→Option Bool
 |.tuple ys=>iB (Dv a&&ys.all Dv) (some (ys.any λy=>PyData.eqv y a))
 |.list ys=>iB (Dv a&&ys.all Dv) (some (ys.any λy=>PyData.eqv y a))
 |.dict kvs=>iB (Lx a) (some (Lb a kvs).isSome)
 |_=>none
noncomputable def eqD(a b:PyData):Option Bool:=iB (Dv a&&Dv b) (some (PyData.eqv a b))
noncomputable def C95(op:CmpOp)(a b:Int):Option Bool:=match op with
 |.Lt=>some (decide (a<b))
 |.LtE=>some (decide (a≤b))
 |.Gt=>some (decide (b<a))
 |.GtE=>some (decide (b≤a))
 |_=>none
noncomputable def rkT(R:PyData→Bool):PyData→Bool
 |.int _=>true
 |.str s=>PyData.canLay0 (.str s)
 |.tuple xs=>xs.all R
 |_=>false
noncomputable def Hr:Nat→PyData→Bool
 |0=>λη=>false
 |n+1=>rkT (Hr n)
noncomputable def D8(x:PyData):Bool:=match x with
 |.tuple _=>Hr 8 x
 |_=>false
noncomputable def isNone:V→Bool
 |.d .none=>true
 |_=>false
noncomputable def iA(a b:V):Option Bool:=iB (isNone b) (some (isNone a))
noncomputable def A01(a b:V)(σ:Sg):Option Bool:=match a with
 |.d a=>match b with
  |.d b=>C80 a b
  |.o k=>match σ[k]? with
   |some (.dct es)=>iB (D8 a) (some (Cw a es).isSome)
   |_=>none
 |.o _=>none
noncomputable def A23{β:Type}(f:Int→Int→Option β)(a b:V):Option β:=match a with
 |.d (.int i)=>match b with
  |.d (.int j)=>f i j
  |_=>none
 |_=>none
noncomputable def n8{β:Type}(f:PyData→PyData→Option β)(a b:V):Option β:=match a with
 |.d a=>match b with
  |.d b=>f a b
  |.o _=>none
 |.o _=>none
noncomputable def Cp(op:CmpOp)(a b:V)(σ:Sg):Option Bool:=match op with
 |.Eq=>n8 eqD a b
 |.NotEq=>o1 (n8 eqD a b) λc=>some !c
 |.In=>A01 a b σ
 |.NotIn=>o1 (A01 a b σ) λc=>some !c
 |.Is=>iA a b
 |.IsNot=>o1 (iA a b) λc=>some !c
 |op=>A23 (C95 op) a b
noncomputable def wA(xs:List PyData):PyData→Option PyData
 |.int i=>o1 (wL i xs.length) λj=>xs[j]?
 |_=>none
noncomputable def C48(o i:PyData):Option PyData:=match o with
 |.tuple xs=>wA xs i
 |.list xs=>wA xs i
 |.dict kvs=>iB (Lx i) (Lb i kvs)
 |_=>none
noncomputable def B35(o:V)(i:PyData)(σ:Sg):Option V:=
 match o with
 |.d x=>o1 (C48 x i) λv=>some (.d v)
 |.o k=>match σ[k]? with
  |some (.lst xs)=>match i with
   |.int i=>iB (decide (0≤i)) xs[i.toNat]?
   |_=>none
  |some (.dct es)=>iB (D8 i) (Cw i es)
  |some (.tab es)=>match i with
   |.str s=>Cw (.str s) es
   |_=>none
  |_=>none
noncomputable def C50(o:PyData)(lo hi:Option Int):Option (PyData×Bool):=match o with
 |.tuple xs=>match lo with
  |none=>match hi with
   |some i=>iB (Nat.blt (Jl i xs.length) xs.length) (some (.tuple (xs.take (Jl i xs.length)),false))
   |none=>none
  |some _=>none
 |.list xs=>some (.list (slc xs lo hi),true)
 |_=>none
noncomputable def C58(o:PyData):Option (PyData×Bool):=
 match o with
 |.list xs=>some (.list xs.reverse,true)
 |_=>none
noncomputable def A14(b:Bool):Kd:=match b with|true=>.fr|false=>.cl
noncomputable def clean:RV→Option V
 |(_,.al _)=>none
 |(v,_)=>some v
noncomputable def Em:RV→Option PyData
 |(.d x,.cl)=>some x
 |(.d x,.fr)=>some x
 |_=>none
noncomputable def Ek:List RV→Option (List PyData)
 |[]=>some []
 |r::rs=>match Em r,Ek rs with
  |some x,some xs=>some (x::xs)
  |_,_=>none
noncomputable def n7:V→Option PyData
 |.d x=>some x
 |.o _=>none
noncomputable def Cx:PyData→Option (List PyData)
 |.tuple xs=>some xs
 |.list xs=>some xs
 |.dict kvs=>some (kvs.map (·.1))
 |_=>none
noncomputable def yW:PyData→Option (List PyData)
 |.list xs=>some xs
 |.dict kvs=>some (kvs.map (·.1))
 |_=>none
noncomputable def Lm:PyData→Option (List PyData)
 |.tuple xs=>some xs
 |.list xs=>some xs
 |_=>none
inductive Bl where
 |len|all|any|tup|srt
noncomputable def nT(f:Str):Option Bl:=lk f [("len",.len),("all",.all),("any",.any),("tuple",.tup),("sorted",.srt)]
noncomputable def B75(v:V)(σ:Sg):Option RV:=match v with
 |.d x=>match x with
  |.tuple xs=>some (.d (.int xs.length),.cl)
  |.list xs=>some (.d (.int xs.length),.cl)
  |.dict xs=>some (.d (.int xs.length),.cl)
  |_=>none
 |.o k=>match σ[k]? with
  |some (.lst xs)=>some (.d (.int xs.length),.cl)
  |_=>none
noncomputable def sF:V→Option (List PyData)
 |.d (.list xs)=>some xs
 |_=>none
noncomputable def blV(b:Bl)(v:V)(σ:Sg):Option RV:=match b with
 |.len=>B75 v σ
 |.all=>o1 (sF v) λxs=>o1 (Fu xs) λl=>some (.d (.bool (l.all id)),.cl)
 |.any=>o1 (sF v) λxs=>o1 (Fu xs) λl=>some (.d (.bool (l.any id)),.cl)
 |.tup=>o1 (sF v) λxs=>some (.d (.tuple xs),.cl)
 |.srt=>match v with
  |.d x=>o1 (yW x) λxs=>o1 (srt xs) λys=>some (.d (.list ys),.fr)
  |.o _=>none
noncomputable def C78(rs:List RV):Option V:=match rs with
 |[r]=>some r.1
 |_=>none
noncomputable def Gj(b:Bl)(rs:List RV)(σ:Sg):Option RV:=o1 (C78 rs) λv=>blV b v σ
noncomputable def D12:PyData→Bool
 |.str _=>true
 |_=>false
noncomputable def v8:List (Str×Nat×Str):=[("TypeTable",0,"TypeTable.__init__"),("Decl",1,"Decl.__init__"),("RefHost",2,"Thin.__init__")]
noncomputable def Kc(f:Str):Option (Nat×Str):=lk f v8
noncomputable def zU:Nat→List (Str×Str)
 |0=>[("put","TypeTable.put")]
 |2=>[("force","Thin.force"),("bound","Thin.bound"),("fits","RefHost.fits")]
 |_=>[]
noncomputable def R6(c:Nat)(m:Str):Option Str:=lk m (zU c)
noncomputable def kin(sc:Scope)(x:Str):Option NameKind:=lk x sc.names
noncomputable def l6:Option NameKind→Bool
 |some .local=>true
 |_=>false
noncomputable def x6:Option NameKind→Bool
 |some .cell=>true
 |_=>false
noncomputable def x5:ScopeKind→Bool
 |.function=>true
 |_=>false
noncomputable def Kn(sc cs:Scope)(x:Str):Bool:=
 x5 cs.kind&&l6 (lk x cs.names)&&(lk "__debug__" cs.names).isNone&&cs.names.all λp=>match p.2 with
  |.local=>(sq p.1 x||sq p.1 ".0")&&l6 (lk p.1 cs.names)
  |.free=>x6 (kin sc p.1)
  |.globalImplicit=>true
  |_=>false
noncomputable def Eh(ρ:A1):Bool:=match lk ".0" ρ with|none=>true|some _=>false
noncomputable def b1{S β:Type}(a:Option (RV×S))(f:V→Kd→S→Option β):Option β:=match a with
 |none=>none
 |some ((v,k),σ)=>f v k σ
noncomputable def b2{S α β:Type}(a:Option (α×S))(f:α→S→Option β):Option β:=match a with
 |none=>none
 |some (x,σ)=>f x σ
noncomputable def eB{β:Type}(b:Bool)(x y:Option β):Option β:=match b with
 |true=>x
 |false=>y
noncomputable def A18(c:Const):Option RV:=match c with
 |.none=>some (.d .none,.cl)
 |.bool b=>some (.d (.bool b),.cl)
 |.int i=>some (.d (.int i),.cl)
 |.str s=>some (.d (.str s),.cl)
 |_=>none
noncomputable def Xq(x:Str)(sv:SK×V):RV:=match sv with
 |(.val,v)=>(v,.cl)
 |(_,v)=>(v,.al x)
noncomputable def Ny(op:Operator)(a b:V):Option RV:=match op with
 |.Add=>n8 (λa b=>o1 (D07 a b) λr=>some (.d r.1,A14 r.2)) a b
 |op=>A23 (λi j=>o1 (opI op i j) λc=>some (.d (.int c),.cl)) a b
noncomputable def sQ(v:V):Option RV:=o1 (Qk v) λb=>some (.d (.bool !b),.cl)
noncomputable def A17(v:V):Option RV:=match v with
 |.d (.int i)=>some (.d (.int (-i)),.cl)
 |_=>none
noncomputable def O0(a:Str):Bool:=Xu a ["rows","index","tab","decls","bounds","defaults","names","members","origins","renamed","shaping","putting","did","kind","name","params","body","bases","static","extends_class","abstract","variances","busy","at","file","nid","deep","most_rounds","most_deep","lib"]
noncomputable def J1(q r:Pos)(n:Nat):Bool:=q.endLine==r.line&&Nat.blt n 29
inductive Xv where
 |con(c:Const)|name(x:Str)|attr(e:Expr)(a:Str)(p:Pos)|sub(b i:Expr)|tup(es:List Expr)|lst(es:List Expr)|dct(ks:List (Option Expr))(vs:List Expr)|call(f:Expr)(args:List Expr)(ks:List Keyword)(r:Pos)|oth
noncomputable def xw:Expr→Xv
 |.Constant c _ _=>.con c
 |.Name x _=>.name x
 |.Attribute e a p=>.attr e a p
 |.Subscript b i _=>.sub b i
 |.Tuple es _ _=>.tup es
 |.List es _=>.lst es
 |.Dict ks vs _=>.dct ks vs
 |.Call f args ks r=>.call f args ks r
 |_=>.oth
noncomputable def C83(e:Expr):Bool:=match xw e with
 |.name _=>true
 |_=>false
noncomputable def C5(e:Expr):Bool:=match xw e with
 |.call f args _ _=>C83 f&&!args.isEmpty
 |_=>true
noncomputable def kS(a:Str)(v:V)(σ:Sg):Option RV:=match v with
 |.o k=>match σ[k]? with
  |some (.inst c fs)=>iB (Nat.blt c 3&&O0 a) (o1 (lk a fs) λv=>some (v,.cl))
  |_=>none
 |_=>none
noncomputable def kR(v:V)(lo hi:Option Int):Option RV:=match v with
 |.d x=>o1 (C50 x lo hi) λr=>some (.d r.1,A14 r.2)
 |_=>none
noncomputable def A16(v st:V)(lo hi:Option Int):Option RV:=match v,st,lo,hi with
 |.d x,.d (.int i),none,none=>iB (decide (i= -1)) (o1 (C58 x) λr=>some (.d r.1,A14 r.2))
 |_,_,_,_=>none
noncomputable def Hg(o i:V)(σ:Sg):Option RV:=match i with
 |.d i=>o1 (B35 o i σ) λv=>some (v,.cl)
 |_=>none
noncomputable def B84(n:Nat)(rs:List RV):Option RV:=iB (room n) (o1 (Ek rs) λxs=>some (.d (.tuple xs),.cl))
noncomputable def B85(n:Nat)(rs:List RV):Option RV:=iB (room n) (o1 (Ek rs) λxs=>some (.d (.list xs),.fr))
noncomputable def C14(n:Nat):Bool:=Nat.ble n 15||(Nat.ble 18 n&&Nat.ble n 32)
noncomputable def B86(v:V):Option RV:=match v with
 |.d (.int _)=>some (.d (.bool false),.cl)
 |.d (.str _)=>some (.d (.bool true),.cl)
 |_=>none
noncomputable def zE(m:Str)(v:V)(σ:Sg):Option (Option Str):=match v with
 |.o k=>match σ[k]? with
  |some (.inst c fs)=>iB (Nat.blt c 3&&(lk m fs).isNone) (o1 (R6 c m) λf=>some (some f))
  |some (.dct _)=>iB (sq m "get") (some none)
  |_=>none
 |.d (.dict _)=>iB (sq m "get") (some none)
 |.d _=>none
noncomputable def C17:RV→Option PyData
 |(.d x,.cl)=>some x
 |_=>none
noncomputable def C06(rs:List RV):Option (PyData×PyData):=match rs with
 |[a,b]=>o1 (n7 a.1) λk=>o1 (C17 b) λd=>some (k,d)
 |_=>none
noncomputable def C05(v:V)(k d:PyData)(σ:Sg):Option RV:=match v with
 |.d (.dict kvs)=>iB (Lx k) (some (.d ((Lb k kvs).getD d),.cl))
 |.o n=>match σ[n]? with
  |some (.dct es)=>iB (D8 k) (some ((Cw k es).getD (.d d),.cl))
  |_=>none
 |_=>none
noncomputable def B87(v:V)(rs:List RV)(σ:Sg):Option RV:=o1 (C06 rs) λq=>C05 v q.1 q.2 σ
noncomputable def Nw(v:V):Option (List PyData):=match v with
 |.d x=>Cx x
 |_=>none
noncomputable def H6(v:V):Option (List PyData):=match v with
 |.d (.int n)=>iB (decide (-4096≤n∧n≤4096)) (some (rng n))
 |_=>none
noncomputable def Nz(sc:Scope)(f:Str):Bool:=match kin sc f with
 |some .globalImplicit=>true
 |_=>false
theorem Ao{α:Type}{x:α}{P:Prop}(h:(none:Option α)=some x):P:=nomatch h
end
section
set_option autoImplicit true
open PySem
structure Fd where
 params:List Str
 dfl:List V
 body:List Stmt
 scope:Scope
noncomputable def C16(e:Expr):Option V:=match e with
 |.UnaryOp .USub (.Constant (.int i) _ _) _=>some (.d (.int (-i)))
 |e=>match xw e with
  |.con (.int i)=>some (.d (.int i))
  |.con (.str s)=>some (.d (.str s))
  |_=>none
noncomputable def C12:Stmt→Option Fd
 |.FunctionDef _ ⟨[],as,none,[],[],none,ds⟩ body [] none [] sc none _ _=>some ⟨as.map (·.arg),ds.filterMap C16,body,sc⟩
 |_=>none
noncomputable def yJ:List Stmt:=PySem.Challenge.pw_xm0489_01.main.body
noncomputable def Md(x:Str):Nat:=x.cps.toList.foldl (λa c=>a*256+c) 0
-- written by gen_e2.py
noncomputable def L8:List (Nat×Nat):=[
 (7358755584334242894034220997562401123753823,58000),
 (6692749215593942512017949619572,58002),
 (5418893231489075361382137093983,59000),
 (30233745359335270,59),
 (132251891138067391216971877,60),
 (1890029705529877164133,61),
 (2036453265564385829229,62),
 (7954895568409813868,63),
 (8097879449466269542,64),
 (36954970636212622709765599095,65),
 (35403881197240856561883507054,66),
 (502626032890861954493555,67),
 (35731471834448322787073942629,68),
 (128021975494502,69),
 (504363577198,70),
 (1796568187009258251622,71),
 (497976732256469072896364,72),
 (29681726383876468,73),
 (7598521889914712936,74),
 (138296410926722095944527461,75),
 (32199642371088754,76),
 (7878073214710165131978026347641,77),
 (132251744859449458694909049,78),
 (112568633486457,79),
 (35883005254783671656542256881695317388409,80),
 (1797146899561375691891,88),
 (9379074341011256321528239907180,89),
 (129852947559548640708096628,90),
 (141965726507310425263141736,91),
 (507330387524976512426860,92),
 (464846743836219526836339,93),
 (483680651955319981699187,94),
 (35716964557589070449351947112,95),
 (33856446684021335211698123624,96),
 (132251744859467050864960883,97),
 (33856446684021595787246138483,98),
 (2018001477957857669989,99),
 (119165903925102,100),
 (568017547272152033339778082443453812,101),
 (516608378357267398030451,102),
 (7882818273274001263,103),
 (452824687986,104),
 (143113316970996936068588659,105),
 (2166225074879614839156,106),
 (2218505341560718876135370921702248,107),
 (159859958048378527650291916910979336744718802973544,108),
 (2439614090723938940076122706831929326334210920,109),
 (133508169536083079721481064,110),
 (2320230607846176872956116356133736,111),
 (131090227101727886817587315,112),
 (2198538321346628731043342579234405,113),
 (135911504308278122542560613,117),
 (135911504308278083954504819,118),
 (547531208111323114876438245959888484,119),
 (32484390062810478,120),
 (34185307416669910810952819813,121),
 (9303868241828481849996046852460,122),
 (583735466154217325953361768701584755,123),
 (2280216664664911429505319408987759,124),
 (9615510968259124669796407177972283115659628,125),
 (2461570807874335913309938334234088065070626405,129),
 (7718687159631959843711243351653,130),
 (7598521915634840421,131),
 (530702627578291169883251,132),
 (119001079225476591876469875,133),
 (479051955010895687545460,134),
 (2381790573329249492921890135176040,135),
 (9063408088642325928103772515940,136),
 (145391966066392332788244027786557748072,137),
 (34161157345590441481854083436,138),
 (34161157345590441550522378612,139),
 (8745256280471153034773377868648,140),
 (6687479549746419451599353306975,149000),
 (398604843005354903233381,149001),
 (398604843005337723563620,149005),
 (25500355330709089496144114803,150001),
 (1760250341483102694245,154),
 (450624087419593004379507,155),
 (1760250341483002031461,156),
 (1760250341482801622891,157),
 (1760250341482901630052,158),
 (1760250341482952224356,159),
 (1760250341483102958452,160),
 (450624087419657110320243,161),
 (1760250341482968737396,162),
 (6875977896417260916,163),
 (6875977896417326437,164),
 (6875977896417650291,165),
 (115359766379417973550314341,166),
 (29532100193130996830715733348,167),
 (450624087419687292333157,168),
 (450624087419674357363827,169),
 (7102839,170)]
noncomputable abbrev gl(k:Nat)(x:Str)(v:PyData):Nat×Str×PyData:=(k,x,v)
noncomputable def glL:List (Nat×Str×PyData):=[
 gl 383850857817 "Y_KEY" (.int 1),
 gl 98265669259084 "Y_BOOL" (.int 2),
 gl 383851385938 "Y_STR" (.int 3),
 gl 383851058509 "Y_NUM" (.int 4),
 gl 98265719526733 "Y_ENUM" (.int 5),
 gl 25156092917534542 "Y_UNION" (.int 6),
 gl 25156041378645330 "Y_INTER" (.int 7),
 gl 383851119178 "Y_OBJ" (.int 8),
 gl 383851316550 "Y_REF" (.int 9),
 gl 25156071225180493 "Y_PARAM" (.int 10),
 gl 25156007085883737 "Y_ARRAY" (.int 11),
 gl 25156088740465733 "Y_TUPLE" (.int 12),
 gl 383851383111 "Y_SIG" (.int 13),
 gl 25156049817915206 "Y_KEYOF" (.int 14),
 gl 25156041377596760 "Y_INDEX" (.int 15),
 gl 98265686036036 "Y_COND" (.int 16),
 gl 6439950935078749508 "Y_MAPPED" (.int 17),
 gl 383851450444 "Y_TPL" (.int 18),
 gl 25156006984630611 "Y_ALIAS" (.int 19),
 gl 4279897 "ANY" (.int 0),
 gl 24011458363742030 "UNKNOWN" (.int 1),
 gl 336170730834 "NEVER" (.int 2),
 gl 1448036676 "VOID" (.int 3),
 gl 366385317190 "UNDEF" (.int 4),
 gl 336438512724 "NULLT" (.int 5),
 gl 91621622894151 "STRING" (.int 6),
 gl 86128275375442 "NUMBER" (.int 7),
 gl 19775044440121172 "FALSE_T" (.int 8),
 gl 92712594661204 "TRUE_T" (.int 9),
 gl 22309409917195348 "OBJECTT" (.int 10),
 gl 297649853529 "EMPTY" (.int 11),
 gl 4543058 "ERR" (.int 13),
 gl 19793706073218886 "FRESH_F" (.int 14),
 gl 19793706073218900 "FRESH_T" (.int 15),
 gl 345196417108 "P_OPT" (.int 1),
 gl 322879072731060054344019 "D_OBJALIAS" (.int 3),
 gl 75175975343437 "D_ENUM" (.int 5),
 gl 1295977607139661727058 "FAM_OTHER" (.int 0),
 gl 19775048937329746 "FAM_STR" (.int 1),
 gl 19775048937002317 "FAM_NUM" (.int 2),
 gl 5062412527670873932 "FAM_BOOL" (.int 3),
 gl 5062412527872592972 "FAM_NULL" (.int 4),
 gl 1295977607165330605382 "FAM_UNDEF" (.int 5),
 gl 5062412528006416708 "FAM_VOID" (.int 6),
 gl 19775048937062986 "FAM_OBJ" (.int 7),
 gl 1425107911906041614158 "MAX_UNION" (.int 400),
 gl 331918198296158518859603 "FIRST_ROWS" (.tuple [.tuple [.int 1,.str "any"],.tuple [.int 1,.str "unknown"],.tuple [.int 1,.str "never"],.tuple [.int 1,.str "void"],.tuple [.int 1,.str "undefined"],.tuple [.int 1,.str "null"],.tuple [.int 1,.str "string"],.tuple [.int 1,.str "number"],.tuple [.int 2,.int 0,.int 0],.tuple [.int 2,.int 1,.int 0],.tuple [.int 1,.str "object"],.tuple [.int 8,.tuple [],.tuple [],.tuple [],.tuple [],.tuple [],.int 0],.tuple [.int 6,.tuple [.int 8,.int 9]],.tuple [.int 1,.str "error"],.tuple [.int 2,.int 0,.int 1],.tuple [.int 2,.int 1,.int 1]]),
 gl 23609510288791097845876741971 "LITERAL_ROWS" (.tuple [.int 2,.int 3,.int 4,.int 5]),
 gl 93395759988543520005642067 "MARKED_ROWS" (.tuple [.int 2,.int 3,.int 4,.int 5,.int 8]),
 gl 95818185987412136328910675 "OBJECT_ROWS" (.tuple [.int 8,.int 9,.int 11,.int 12,.int 13]),
 gl 23295213666274364401593697619 "KEY_FAMILIES" (.dict [(.int 3,.int 6),(.int 4,.int 5),(.int 5,.int 4),(.int 6,.int 1),(.int 7,.int 2),(.int 10,.int 7)]),
 gl 1425107911833093756750 "MAX_DRAWN" (.int 200),
 gl 364900040244725076608338 "MEET_NEVER" (.int 0),
 gl 1425390782205923771988 "MEET_LEFT" (.int 1),
 gl 364900040244742322604116 "MEET_RIGHT" (.int 2),
 gl 1425390782205756658760 "MEET_BOTH" (.int 3),
 gl 417052713845144561242644012570854739 "PRIMITIVE_NAMES" (.tuple [.str "charAt",.str "concat",.str "includes",.str "indexOf",.str "length",.str "slice",.str "toLowerCase",.str "toString",.str "toUpperCase"]),
 gl 18945982591092036 "COERCED" (.tuple [.int 1,.int 2,.int 3]),
 gl 22048834369180488 "NULLISH" (.tuple [.int 4,.int 5,.int 6]),
 gl 1297200305919876880211 "FREE_ROWS" (.tuple [.int 10,.int 15,.int 16]),
 gl 379307233602180132259155 "PRIMITIVES" (.tuple [.int 1,.int 2,.int 3,.int 4,.int 5,.int 6]),
 gl 365085516491787409115470 "MOST_PLAIN" (.int 40),
 gl 379195975556630618003283 "PLAIN_ROWS" (.tuple [.int 1,.int 2,.int 3,.int 4,.int 5]),
 gl 93461892221899788977587283 "MOST_ROUNDS" (.int 200),
 gl 93461892221900858089030995 "MOST_SHAPES" (.int 40),
 gl 6875977896417127532 "_law_all" (.tuple [.int 0,.int 1,.int 2,.int 3,.int 4,.int 5,.int 6,.int 7,.int 8,.int 9,.int 10,.int 11,.int 12,.int 13]),
 gl 450624087419670229707108 "_law_solid" (.tuple [.int 2,.int 3,.int 4,.int 5,.int 6,.int 7,.int 8,.int 9,.int 10,.int 11,.int 12,.int 13]),
 gl 115359766379436648201873267 "_law_things" (.tuple [.int 9,.int 10,.int 11,.int 12,.int 13])]
noncomputable def Wj{α:Type}(k:Nat):List (Nat×α)→Option α
 |[]=>none
 |(j,v)::r=>match Nat.beq j k with|true=>some v|false=>Wj k r
noncomputable def glob(x:Str):Option PyData:=match Wj (Md x) glL with
 |some (y,v)=>match sq y x with|true=>some v|false=>none
 |none=>none
noncomputable def yR:Stmt→Str
 |.FunctionDef n _ _ _ _ _ _ _ _ _=>n
 |.ClassDef n _ _ _ _ _ _ _ _ _ _=>n
 |_=>""
noncomputable def clB:Stmt→List Stmt
 |.ClassDef _ _ _ b _ _ _ _ _ _ _=>b
 |_=>[]
noncomputable def wN(i:Nat):Str:=match Nat.blt i 1000 with
 |true=>((yJ[i]?).map yR).getD ""
 |false=>((yJ[i/1000-1]?).map λc=>yR c++"."++(((clB c)[i%1000]?).map yR).getD "").getD ""
noncomputable def oQ(i:Nat):Option Fd:=match Nat.blt i 1000 with
 |true=>(yJ[i]?).bind C12
 |false=>(yJ[i/1000-1]?).bind λc=>((clB c)[i%1000]?).bind C12
noncomputable def fn(x:Str):Option Fd:=match Wj (Md x) L8 with
 |some i=>match sq (wN i) x with
  |true=>oQ i
  |false=>none
 |none=>none
noncomputable def gfn(x:Str):Bool:=match Wj (Md x) L8 with
 |some i=>Nat.blt i 1000&&(fn x).isSome
 |none=>false
end
section
set_option autoImplicit true
open PySem
structure If(S:Type) where
 get:S→Sg
 put:S→Sg→S
 call:Str→List RV→S→Option (RV×S)
 io:Str→V→S→Option (V×S)
 pv:Pos→Option RV→S→Option (RV×S)
 pb:Pos→Option Bool→S→Option (Bool×S)
 pl:Pos→Option (List PyData)→S→Option (List PyData×S)
 hc:Expr→Scope→A1→S→Option (RV×S)→Option (RV×S)
 hs:Stmt→Scope→A1→S→Option (Fl×A1×S)→Option (Fl×A1×S)
section
variable{S:Type}(I:If S)
noncomputable def Hz(g:PyData→S→Option (Option PyData×S)):List PyData→S→Option (List PyData×S)
 |[],σ=>some ([],σ)
 |x::xs,σ=>b2 (g x σ) λy σ=>b2 (Hz g xs σ) λys σ=>some (match y with|some y=>y::ys|none=>ys,σ)
noncomputable def callV(p:Pos)(f:Str)(rs:List RV)(s:S):Option (RV×S):=match nT f with
 |some k=>I.pv p (Gj k rs (I.get s)) s
 |none=>match Kc f with
  |some (c,init)=>b1 (I.call init ((.o (I.get s).length,.cl)::rs) (I.put s (I.get s++[.inst c []]))) λv η s'=>match isNone v with
   |true=>some ((.o (I.get s).length,.cl),s')
   |false=>none
  |none=>iB (gfn f) (I.call f rs s)
noncomputable def callM(p:Pos)(mt:Option Str)(v:V)(rs:List RV)(s:S):Option (RV×S):=match mt with
 |some f=>I.call f ((v,.cl)::rs) s
 |none=>I.pv p (B87 v rs (I.get s)) s
noncomputable abbrev Fn(S α:Type):=Scope→A1→S→Option (α×S)
structure Ev(S:Type) where
 val:Fn S RV
 tst:Fn S Bool
 itr:Fn S (List PyData)
 idx:V→Pos→Fn S RV
 cll:Nat→Fn S (List RV)→Fn S RV→Pos→Fn S RV
noncomputable def evV(p:Pos)(val:Fn S RV):Ev S where
 val:=val
 tst sc ρ s:=b1 (val sc ρ s) λv η s=>I.pb p (Qk v) s
 itr sc ρ s:=b1 (val sc ρ s) λv η s=>I.pl p (Nw v) s
 idx o q sc ρ s:=b1 (val sc ρ s) λi η s=>I.pv q (Hg o i (I.get s)) s
 cll _ _ _ _ _ _ _:=none
noncomputable def evN:Ev S:=evV I ⟨0,0,0,0⟩ λη η η=>none
noncomputable def Pa:BoolOp→List (Ev S)→Scope→A1→S→Option (Bool×S)
 |op,[],_,_,s=>some (match op with|.And=>true|.Or=>false,s)
 |op,e::es,sc,ρ,s=>b2 (e.tst sc ρ s) λb s=>match op with
  |.And=>eB b (Pa op es sc ρ s) (some (false,s))
  |.Or=>eB b (some (true,s)) (Pa op es sc ρ s)
noncomputable def evB:BoolOp→List (Ev S)→Pos→Scope→A1→S→Option (RV×S)
 |_,[],_,_,_,_=>none
 |op,e::es,p,sc,ρ,s=>b1 (e.val sc ρ s) λv k s=>eB es.isEmpty (some ((v,k),s)) (b2 (I.pb p (Qk v) s) λb s=>match op with
    |.And=>eB b (evB op es p sc ρ s) (some ((v,k),s))
    |.Or=>eB b (some ((v,k),s)) (evB op es p sc ρ s))
noncomputable def evA:List (Ev S)→Scope→A1→S→Option (Bool×S)
 |[],_,_,s=>some (true,s)
 |e::es,sc,ρ,s=>b2 (e.tst sc ρ s) λb s=>eB b (evA es sc ρ s) (some (false,s))
noncomputable def Mu:List (Ev S)→Scope→A1→S→Option (List RV×S)
 |[],_,_,s=>some ([],s)
 |e::es,sc,ρ,s=>b1 (e.val sc ρ s) λv k s=>b2 (Mu es sc ρ s) λrs s=>some ((v,k)::rs,s)
noncomputable def C85:V→Option Int
 |.d (.int i)=>some i
 |_=>none
noncomputable def evO:Option (Ev S)→Scope→A1→S→Option (Option Int×S)
 |none,_,_,s=>some (none,s)
 |some e,sc,ρ,s=>b1 (e.val sc ρ s) λv η s=>o1 (C85 v) λi=>some (some i,s)
noncomputable def evH(st:Option (Ev S))(o:V)(lo hi:Option Int)(p:Pos)(sc:Scope)(ρ:A1)(s:S):Option (RV×S):=match st with
 |none=>I.pv p (kR o lo hi) s
 |some st=>b1 (st.val sc ρ s) λst η s=>I.pv p (A16 o st lo hi) s
noncomputable def B39(k:Option Expr):Option Str:=o1 k λk=>match xw k with
 |.con (.str t)=>some t
 |_=>none
noncomputable def C2(e:Expr):Option Str:=match xw e with
 |.name x=>some x
 |_=>none
noncomputable def oS:List (Option Expr)→List (Ev S)→Scope→A1→S→Option (List (PyData×V)×S)
 |[],[],_,_,s=>some ([],s)
 |k::ks,v::vs,sc,ρ,s=>o1 (B39 k) λt=>b1 (v.val sc ρ s) λx k s=>o1 (clean (x,k)) λx=>
   b2 (oS ks vs sc ρ s) λkvs s=>iB (Cw (.str t) kvs).isNone (some ((.str t,x)::kvs,s))
 |_,_,_,_,_=>none
noncomputable def evX(ks:List (Option Expr))(vs:List (Ev S))(sc:Scope)(ρ:A1)(s:S):Option (List (PyData×V)×S):=b2 (oS ks vs sc ρ s) λkvs s=>iB (C14 kvs.length) (some (kvs,s))
noncomputable def v5:List (PyData×V)→Option (List (PyData×PyData))
 |[]=>some []
 |(k,v)::r=>match v with
  |.d x=>o1 (v5 r) λl=>some ((k,x)::l)
  |.o _=>none
noncomputable def sole{α:Type}:List α→Option α
 |[a]=>some a
 |_=>none
noncomputable def duo{α:Type}:List α→Option (α×α)
 |[a,b]=>some (a,b)
 |_=>none
noncomputable def evK(ops:List CmpOp)(cs:List Expr)(l:Ev S)(rs:List (Ev S))(p:Pos):Ev S:=
 {evV I p (λsc ρ s=>o1 (sole ops) λop=>o1 (sole rs) λr=>b1 (l.val sc ρ s) λa η s=>b1 (r.val sc ρ s) λb η s=>b2 (I.pb p (Cp op a b (I.get s)) s) λc s=>some ((.d (.bool c),.cl),s))with
  tst:=λsc ρ s=>match sole ops with
   |some op=>o1 (sole rs) λr=>b1 (l.val sc ρ s) λa η s=>b1 (r.val sc ρ s) λb η s=>I.pb p (Cp op a b (I.get s)) s
   |none=>o1 (duo ops) λop=>o1 (duo rs) λr=>o1 (duo cs) λc=>iB (!behindInMarks op.2 c.2) (b1 (l.val sc ρ s) λa η s=>b1 (r.1.val sc ρ s) λb η s=>b2 (I.pb p (Cp op.1 a b (I.get s)) s) λc s=>
     eB c (b1 (r.2.val sc ρ s) λc η s=>I.pb p (Cp op.2 b c (I.get s)) s) (some (false,s)))}
noncomputable def B89(es:List Expr):Option (Str×Pos):=o1 (duo es) λe=>o1 (C2 e.2) λt=>some (t,e.2.pos)
noncomputable def evS(args:List Expr)(es:List (Ev S)):Fn S RV:=λsc ρ s=>
 o1 (B89 args) λt=>o1 (duo es) λe=>iB (Nz sc t.1&&sq t.1 "str") (b1 (e.1.val sc ρ s) λv η s=>I.pv t.2 (B86 v) s)
noncomputable def cX(f:Expr)(ks:List Keyword):Option Str:=iB ks.isEmpty (o1 (C2 f) λf=>iB (sq f "range") (some f))
noncomputable def evR(f:Expr)(es:List (Ev S))(ks:List Keyword)(r:Pos)(v:Ev S):Ev S:=match cX f ks,sole es with
 |some f,some e=>{v with itr:=λsc ρ s=>iB (Nz sc f) (b1 (e.val sc ρ s) λv η s=>I.pl r (H6 v) s)}
 |_,_=>v
noncomputable def O9(e:Expr)(k:Int)(r:List Comprehension):Option Str:=iB (decide (k=0)&&r.isEmpty) (C2 e)
noncomputable def turn(elt:Ev S)(ifs:List (Ev S))(cs:Scope)(x:Str)(ρ:A1)(it:PyData)(s:S):Option (Option PyData×S):=
 b2 (evA ifs cs ((x,.val,.d it)::ρ) s) λc s=>eB c (b1 (elt.val cs ((x,.val,.d it)::ρ) s) λv k s=>o1 (Em (v,k)) λy=>some (some y,s)) (some (none,s))
structure Cm(S:Type) where
 x:Str
 it:Ev S
 ifs:List (Ev S)
mutual
noncomputable def ev:Expr→Ev S
 |.Constant c _ p=>evV I p λη η s=>o1 (A18 c) λr=>some (r,s)
 |.Name x p=>
  {evV I p (λsc ρ s=>o1 (kin sc x) λk=>match k with
   |.globalImplicit=>o1 (glob x) λc=>some ((.d c,.cl),s)
   |.globalExplicit=>none
   |_=>o1 (lk x ρ) λsv=>some (Xq x sv,s))with
   cll:=λη al is r sc ρ s=>iB (Nz sc x) (eB (sq x "isinstance") (is sc ρ s) (b2 (al sc ρ s) λrs s=>callV I r x rs s))}
 |.BoolOp op vs p=>{evV I p (evB I op (M1 vs) p)with tst:=Pa op (M1 vs)}
 |.BinOp l op r p=>evV I p λsc ρ s=>b1 ((ev l).val sc ρ s) λa η s=>b1 ((ev r).val sc ρ s) λb η s=>I.pv p (Ny op a b) s
 |.UnaryOp op x p=>match op with
  |.Not=>{evV I p (λsc ρ s=>b1 ((ev x).val sc ρ s) λv η s=>I.pv p (sQ v) s)with
    tst:=λsc ρ s=>b2 ((ev x).tst sc ρ s) λb s=>some (!b,s)}
  |.USub=>evV I p λsc ρ s=>b1 ((ev x).val sc ρ s) λv η s=>I.pv p (A17 v) s
  |_=>evN I
 |.IfExp t a b p=>
  {evV I p (λsc ρ s=>b2 ((ev t).tst sc ρ s) λc s=>eB c ((ev a).val sc ρ s) ((ev b).val sc ρ s))with
   tst:=λsc ρ s=>b2 ((ev t).tst sc ρ s) λc s=>eB c ((ev a).tst sc ρ s) ((ev b).tst sc ρ s)}
 |.Compare l ops cs p=>evK I ops cs (ev l) (M1 cs) p
 |.Attribute e a p=>
  {evV I p (λsc ρ s=>iB (C5 e) (b1 ((ev e).val sc ρ s) λv η s=>I.pv p (kS a v (I.get s)) s))with
   cll:=λn al η r sc ρ s=>iB (C5 e&&J1 p r n) (b1 ((ev e).val sc ρ s) λv η s=>o1 (zE a v (I.get s)) λmt=>b2 (al sc ρ s) λrs s=>callM I r mt v rs s)}
 |.Subscript e i p=>evV I p λsc ρ s=>b1 ((ev e).val sc ρ s) λo η s=>(ev i).idx o p sc ρ s
 |.Slice lo hi st _=>
  {evN I with
   idx:=λo p sc ρ s=>b2 (evO (evo lo) sc ρ s) λlo s=>b2 (evO (evo hi) sc ρ s) λhi s=>evH I (evo st) o lo hi p sc ρ s}
 |.Tuple es _ p=>evV I p λsc ρ s=>b2 (Mu (M1 es) sc ρ s) λrs s=>I.pv p (B84 rs.length rs) s
 |.List es p=>evV I p λsc ρ s=>b2 (Mu (M1 es) sc ρ s) λrs s=>I.pv p (B85 rs.length rs) s
 |.Dict ks vs p=>evV I p λsc ρ s=>b2 (evX ks (M1 vs) sc ρ s) λkvs s=>o1 (v5 kvs) λkvs=>some ((.d (.dict kvs),.fr),s)
 |.ListComp elt gs cs p=>evV I p λsc ρ s=>I.hc (.ListComp elt gs cs p) sc ρ s (o1 (Ry gs) λg=>
   iB (Kn sc cs g.x&&Eh ρ) (b2 (g.it.itr sc ρ s) λxs s=>b2 (Hz (turn (ev elt) g.ifs cs g.x ρ) xs s) λys s=>some ((.d (.list ys),.fr),s)))
 |.Call f args ks r=>evR I f (M1 args) ks r (evV I r (match ks with
  |[]=>(ev f).cll args.length (Mu (M1 args)) (evS I args (M1 args)) r
  |_=>λη η η=>none))
 |_=>evN I
noncomputable def M1:List Expr→List (Ev S)
 |[]=>[]
 |e::es=>ev e::M1 es
noncomputable def evo:Option Expr→Option (Ev S)
 |none=>none
 |some e=>some (ev e)
noncomputable def Ry:List Comprehension→Option (Cm S)
 |[]=>none
 |⟨t,it,ifs,k⟩::r=>o1 (O9 t k r) λx=>some ⟨x,ev it,M1 ifs⟩
end
noncomputable abbrev J7(e:Expr):Scope→A1→S→Option (RV×S):=(ev I e).val
noncomputable abbrev evT(e:Expr):Scope→A1→S→Option (Bool×S):=(ev I e).tst
noncomputable def Zl:PyData→Option (List PyData)
 |.tuple xs=>some xs
 |_=>none
noncomputable def Et(sc:Scope)(x:Str):Bool:=match kin sc x with
 |some .local=>true
 |some .cell=>true
 |_=>false
noncomputable def Ql(sc:Scope)(ts:List Expr):Bool:=ts.all λt=>match C2 t with
 |some x=>Et sc x
 |none=>false
noncomputable def pP(ts:List Expr):Bool:=match duo ts with
 |some (a,b)=>match C2 a with
  |some x=>match C2 b with
   |some y=>!sq x y
   |none=>false
  |none=>false
 |none=>false
noncomputable def Ws(sc:Scope)(e:Expr):Bool:=match xw e with
 |.name x=>Et sc x
 |.tup ts=>Ql sc ts
 |_=>false
noncomputable def w3(ts:List Expr)(e:Expr):Bool:=match xw e with
 |.tup vs=>pP ts&&(vs.all (foldedForSure 8)|| !vs.all (constantsAlone 8))
 |_=>true
noncomputable def D6:List Expr→List PyData→A1→Option A1
 |[],[],ρ=>some ρ
 |e::es,v::vs,ρ=>o1 (C2 e) λx=>D6 es vs (up x (.val,.d v) ρ)
 |_,_,_=>none
noncomputable def Fa(e:Expr)(v:PyData)(ρ:A1):Option A1:=match xw e with
 |.name x=>some (up x (.val,.d v) ρ)
 |.tup es=>o1 (Zl v) λxs=>D6 es xs ρ
 |_=>none
noncomputable def frzX(x:Str)(ρ:A1):A1:=match lk x ρ with
 |some (.own,v)=>up x (.val,v) ρ
 |_=>ρ
noncomputable def frz:List Expr→A1→A1
 |[],ρ=>ρ
 |e::es,ρ=>frz es (match C2 e with|some x=>frzX x ρ|none=>ρ)
noncomputable def frzE(e:Expr)(ρ:A1):A1:=match xw e with
 |.dct _ vs=>frz vs ρ
 |.tup es=>frz es ρ
 |.lst es=>frz es ρ
 |_=>ρ
noncomputable def frzK(k:Kd)(ρ:A1):A1:=match k with
 |.al x=>frzX x ρ
 |_=>ρ
noncomputable def asg:Kd→Option SK
 |.cl=>some .val
 |.fr=>some .own
 |.al _=>none
noncomputable def Nh(x:Str)(ρ:A1):Option V:=o1 (lk x ρ) λsv=>match sv with
 |(.own,v)=>some v
 |_=>none
noncomputable def Ir(f:PyData→A1→S→Option (Fl×A1×S)):List PyData→A1→S→Option (Fl×A1×S)
 |[],ρ,s=>some (.nx,ρ,s)
 |x::xs,ρ,s=>b2 (f x ρ s) λfl r=>match fl with
  |.ret v=>some (.ret v,r)
  |_=>Ir f xs r.1 r.2
noncomputable def jW(k i:Nat)(σ:Sg):Option (Option PyData):=match σ[k]? with
 |some (.lst xs)=>match xs[i]? with
  |none=>some none
  |some (.d x)=>some (some x)
  |some (.o _)=>none
 |_=>none
noncomputable def Nn(f:PyData→A1→S→Option (Fl×A1×S))(k:Nat):Nat→Nat→A1→S→Option (Fl×A1×S)
 |0,_,_,_=>none
 |n+1,i,ρ,s=>o1 (jW k i (I.get s)) λx=>match x with
  |none=>some (.nx,ρ,s)
  |some x=>b2 (f x ρ s) λfl r=>match fl with
   |.ret v=>some (.ret v,r)
   |_=>Nn f k n (i+1) r.1 r.2
noncomputable def Uf(t:A1→S→Option (Bool×S))(f:A1→S→Option (Fl×A1×S)):Nat→A1→S→Option (Fl×A1×S)
 |0,_,_=>none
 |n+1,ρ,s=>b2 (t ρ s) λb s=>eB b (b2 (f ρ s) λfl r=>match fl with
  |.ret v=>some (.ret v,r)
  |_=>Uf t f n r.1 r.2) (some (.nx,ρ,s))
noncomputable def l5(k:Nat)(σ:Sg):Bool:=match σ[k]? with
 |some (.lst _)=>true
 |_=>false
noncomputable def jM(m:Str)(rs:List RV):Option (List V):=match rs with
 |[r]=>eB (sq m "append") (o1 (clean r) λv=>some [v]) (iB (sq m "extend") (match r with
  |(.d y,_)=>o1 (Lm y) λys=>some (ys.map V.d)
  |_=>none))
 |_=>none
noncomputable def Gy(m:Str)(v:V)(rs:List RV):Option V:=match v with
 |.d (.list xs)=>match rs with
  |[r]=>eB (sq m "append") (o1 (Em r) λy=>iB (room (xs.length+1)) (some (.d (.list (xs++[y]))))) (iB (sq m "extend") (match r with
   |(.d y,_)=>o1 (Lm y) λys=>iB (room (xs.length+ys.length)) (some (.d (.list (xs++ys))))
   |_=>none))
  |[i,r]=>iB (sq m "insert") (match i with
   |(.d (.int i),_)=>iB (decide (i=0)&&room (xs.length+1)) (o1 (Em r) λy=>some (.d (.list (y::xs))))
   |_=>none)
  |_=>none
 |_=>none
noncomputable def bM(c:Nat)(a:Str)(fs:List (Str×V)):Bool:=Nat.blt c 3&&O0 a&&Nat.blt fs.length 100
noncomputable def yY:V→Bool
 |.d .none=>true
 |.d (.bool _)=>true
 |.d (.int _)=>true
 |.d (.str _)=>true
 |_=>false
noncomputable def kY(es:List Expr):Bool:=match sole es with
 |some e=>match xw e with
  |.sub b _=>(C2 b).isSome
  |_=>false
 |none=>false
mutual
noncomputable def ioS:Stmt→Bool
 |.If _ b e _=>l9 b&&l9 e
 |.Assign ts _ _=>kY ts
 |_=>false
noncomputable def l9:List Stmt→Bool
 |[]=>true
 |s::r=>ioS s&&l9 r
end
noncomputable def Wz(o:V)(a:Str)(v:V)(ρ:A1)(s:S):Option (Fl×A1×S):=match o with
 |.o k=>match(I.get s)[k]? with
  |some (.inst c fs)=>iB (bM c a fs) (some (.nx,ρ,I.put s ((I.get s).set k (.inst c (up a v fs)))))
  |_=>none
 |_=>none
noncomputable def Pb(x:Str)(e:Expr)(sc:Scope)(ρ:A1)(s:S):Option (Fl×A1×S):=
 b1 (J7 I e sc (frzE e ρ) s) λv k s=>o1 (asg k) λsk=>some (.nx,up x (sk,v) (frzE e ρ),s)
noncomputable def B00(x:Str)(ks:List (Option Expr))(vs:List Expr)(sc:Scope)(ρ:A1)(s:S):Option (Fl×A1×S):=
 b2 (evX ks (M1 I vs) sc (frz vs ρ) s) λes s=>some (.nx,up x (.val,.o (I.get s).length) (frz vs ρ),I.put s (I.get s++[.tab es]))
noncomputable def C68:V→Option (List PyData×PyData)
 |.d (.list xs)=>o1 xs.getLast? λv=>some (xs.dropLast,v)
 |_=>none
noncomputable def vF(x y:Str)(m:Str)(q r:Pos)(sc:Scope)(ρ:A1)(s:S):Option (Fl×A1×S):=
 iB (Et sc y&&sq m "pop"&&J1 q r 0) (o1 (Nh y ρ) λv=>o1 (C68 v) λz=>some (.nx,up x (.val,.d z.2) (up y (.own,.d (.list z.1)) ρ),s))
noncomputable def d4(f:Expr)(args:List Expr)(ks:List Keyword):Option (Str×Str×Pos):=iB (args.isEmpty&&ks.isEmpty) (match xw f with
 |.attr e m q=>o1 (C2 e) λy=>some (y,m,q)
 |_=>none)
noncomputable def eW(x:Str)(e:Expr)(sc:Scope)(ρ:A1)(s:S):Option (Fl×A1×S):=iB (Et sc x) (match xw e with
 |.call f args ks r=>match d4 f args ks with
  |some (y,m,q)=>vF x y m q r sc ρ s
  |none=>Pb I x e sc ρ s
 |.dct ks vs=>eB (sq x "w") (B00 I x ks vs sc ρ s) (Pb I x e sc ρ s)
 |_=>Pb I x e sc ρ s)
noncomputable def vD(o:Expr)(a:Str)(e:Expr)(sc:Scope)(ρ:A1)(s:S):Option (Fl×A1×S):=
 b1 (J7 I e sc ρ s) λv k s=>o1 (clean (v,k)) λx=>b1 (J7 I o sc ρ s) λv η s=>Wz I v a x ρ s
noncomputable def kZ(e:Expr):Bool:=match xw e with
 |.lst _=>true
 |.dct ks _=>ks.isEmpty
 |_=>false
noncomputable def rW(v:V)(k:Kd):Option MO:=match k with
 |.fr=>match v with
  |.d (.list xs)=>some (.lst (xs.map V.d))
  |.d (.dict [])=>some (.dct [])
  |_=>none
 |_=>none
noncomputable def eX(o:Expr)(a:Str)(e:Expr)(sc:Scope)(ρ:A1)(s:S):Option (Fl×A1×S):=
 eB (kZ e) (b1 (J7 I e sc ρ s) λv k s=>o1 (rW v k) λmo=>b1 (J7 I o sc ρ (I.put s (I.get s++[mo]))) λv η s'=>Wz I v a (.o (I.get s).length) ρ s') (vD I o a e sc ρ s)
noncomputable def B38(p:Pos)(y:Str)(v:V)(r:RV)(i:V)(ρ:A1)(s:S):Option (Fl×A1×S):=match v,i with
 |.d (.dict kvs),.d k=>o1 (Em r) λx=>b2 (I.pb p (some (Lx k&&room (kvs.length+1))) s) λb s=>iB b (some (.nx,up y (.own,.d (.dict (La k x kvs))) ρ,s))
 |_,_=>none
noncomputable def B36(p:Pos)(v:V)(r:RV)(i:V)(ρ:A1)(s:S):Option (Fl×A1×S):=match v,i with
 |.o n,.d (.str t)=>o1 (clean r) λx=>match(I.get s)[n]? with
  |some (.tab es)=>b2 (I.pb p (some (room (es.length+1))) s) λb s=>iB b (some (.nx,ρ,I.put s ((I.get s).set n (.tab (Il (.str t) x es)))))
  |_=>none
 |_,_=>none
noncomputable def B37(p:Pos)(v:V)(r:RV)(i:V)(ρ:A1)(s:S):Option (Fl×A1×S):=match v,i with
 |.o n,.d k=>o1 (clean r) λx=>match(I.get s)[n]? with
  |some (.dct es)=>b2 (I.pb p (some (D8 k&&room (es.length+1))) s) λb s=>iB b (some (.nx,ρ,I.put s ((I.get s).set n (.dct (Il k x es)))))
  |_=>none
 |_,_=>none
noncomputable def gX(y:Str)(i e:Expr)(p:Pos)(sc:Scope)(ρ:A1)(s:S):Option (Fl×A1×S):=
 b1 (J7 I e sc ρ s) λv k s=>iB (Et sc y) (o1 (lk y ρ) λsv=>b1 (J7 I i sc ρ s) λiv η s=>match sv.1 with
  |.own=>B38 I p y sv.2 (v,k) iv ρ s
  |.val=>B36 I p sv.2 (v,k) iv ρ s
  |.bor=>none)
noncomputable def gY(b i e:Expr)(p:Pos)(sc:Scope)(ρ:A1)(s:S):Option (Fl×A1×S):=
 b1 (J7 I e sc ρ s) λv k s=>b1 (J7 I b sc ρ s) λov η s=>b1 (J7 I i sc ρ s) λiv η s=>B37 I p ov (v,k) iv ρ s
noncomputable def o4(b i e:Expr)(p:Pos)(sc:Scope)(ρ:A1)(s:S):Option (Fl×A1×S):=match xw b with
 |.name y=>gX I y i e p sc ρ s
 |.attr _ _ _=>gY I b i e p sc ρ s
 |_=>none
noncomputable def yH(v:V)(k:Kd):Option (List PyData):=match v,k with
 |.d y,.cl=>Zl y
 |_,_=>none
noncomputable def eV(ts:List Expr)(e:Expr)(sc:Scope)(ρ:A1)(s:S):Option (Fl×A1×S):=
 iB (Ql sc ts&&w3 ts e) (b1 (J7 I e sc ρ s) λv k s=>o1 (yH v k) λxs=>o1 (D6 ts xs ρ) λρ=>some (.nx,ρ,s))
noncomputable def exA(t e:Expr)(p:Pos)(sc:Scope)(ρ:A1)(s:S):Option (Fl×A1×S):=match xw t with
 |.name x=>eW I x e sc ρ s
 |.attr o a _=>eX I o a e sc ρ s
 |.sub b i=>o4 I b i e p sc ρ s
 |.tup ts=>eV I ts e sc ρ s
 |_=>none
noncomputable def exO(y m:Str)(q r:Pos)(args:List Expr)(v:V)(sc:Scope)(ρ:A1)(s:S):Option (Fl×A1×S):=
 iB (J1 q r args.length) (b2 (Mu (M1 I args) sc ρ s) λrs s=>b1 (I.pv r (o1 (Gy m v rs) λv=>some (v,.cl)) s) λv η s=>some (.nx,up y (.own,v) ρ,s))
noncomputable def exL(o:Expr)(m:Str)(q r:Pos)(args:List Expr)(sc:Scope)(ρ:A1)(s:S):Option (Fl×A1×S):=
 b1 (J7 I o sc ρ s) λv η s=>match v with
  |.o k=>iB (J1 q r args.length&&l5 k (I.get s)) (b2 (Mu (M1 I args) sc ρ s) λrs s=>o1 (jM m rs) λys=>match(I.get s)[k]? with
   |some (.lst xs)=>b2 (I.pb r (some (room (xs.length+ys.length))) s) λb s=>iB b (some (.nx,ρ,I.put s ((I.get s).set k (.lst (xs++ys)))))
   |_=>none)
  |_=>none
noncomputable def exC(f y:Str)(sc:Scope)(ρ:A1)(s:S):Option (Fl×A1×S):=
 iB (Et sc y&&(Nz sc f&&gfn f)) (o1 (Nh y ρ) λv=>b2 (I.io f v s) λv s=>some (.nx,up y (.own,v) ρ,s))
noncomputable def exV(e:Expr)(sc:Scope)(ρ:A1)(s:S):Option (Fl×A1×S):=b1 (J7 I e sc ρ s) λv η s=>iB (yY v) (some (.nx,ρ,s))
noncomputable def xG(e:Expr)(y m:Str)(q r:Pos)(args:List Expr)(sc:Scope)(ρ:A1)(s:S):Option (Fl×A1×S):=match Et sc y with
 |true=>o1 (lk y ρ) λsv=>match sv.1 with
  |.own=>exO I y m q r args sv.2 sc ρ s
  |_=>exV I e sc ρ s
 |false=>exV I e sc ρ s
noncomputable def exE(e f:Expr)(args:List Expr)(r:Pos)(sc:Scope)(ρ:A1)(s:S):Option (Fl×A1×S):=match xw f with
 |.attr o m q=>match xw o with
  |.name y=>xG I e y m q r args sc ρ s
  |.attr _ _ _=>exL I o m q r args sc ρ s
  |_=>none
 |.name f=>o1 (sole args) λa=>o1 (C2 a) λy=>exC I f y sc ρ s
 |_=>none
noncomputable def C59(v:V)(k:Kd)(e:Expr)(ρ:A1)(s:S):Option (Fl×A1×S):=match k with
 |.al x=>o1 (Nh x ρ) λη=>some (.ret (v,.fr),ρ,s)
 |k=>some (.ret (v,k),frzE e ρ,s)
noncomputable def aX(e:Expr):Option (Str×Expr×Pos):=match xw e with
 |.call f args ks r=>o1 (cX f ks) λf=>o1 (sole args) λe=>some (f,e,r)
 |_=>none
noncomputable def z8(e:Option Expr)(sc:Scope)(ρ:A1)(s:S):Option (Fl×A1×S):=match e with
 |none=>some (.ret (.d .none,.cl),ρ,s)
 |some e=>b1 (J7 I e sc (frzE e ρ) s) λv k s=>C59 v k e ρ s
noncomputable def exX(e:Expr)(sc:Scope)(ρ:A1)(s:S):Option (Fl×A1×S):=match xw e with
 |.call f args ks r=>iB ks.isEmpty (exE I e f args r sc ρ s)
 |_=>none
noncomputable def Oa(it:Expr)(sc:Scope)(ρ:A1)(s:S):Option (V×A1×S):=match aX it with
 |some (x,e,r)=>iB (Nz sc x) (b1 (J7 I e sc ρ s) λv η s=>b2 (I.pl r (H6 v) s) λxs s=>some (.d (.list xs),ρ,s))
 |none=>b1 (J7 I it sc ρ s) λv k s=>some (v,frzK k ρ,s)
noncomputable def uH(f:PyData→A1→S→Option (Fl×A1×S))(v:V)(ρ:A1)(s:S):Option (Fl×A1×S):=match v with
 |.o n=>Nn I f n 100 0 ρ s
 |.d x=>o1 (Cx x) λxs=>Ir f xs ρ s
noncomputable def A63(t it:Expr)(f:A1→S→Option (Fl×A1×S))(sc:Scope)(ρ:A1)(s:S):Option (Fl×A1×S):=iB (Ws sc t) (b2 (Oa I it sc ρ s) λv r=>uH I (λx ρ s=>o1 (Fa t x ρ) λρ=>f ρ s) v r.1 r.2)
mutual
noncomputable def P9:Stmt→Scope→A1→S→Option (Fl×A1×S)
 |.Pass _,_,ρ,s=>some (.nx,ρ,s)
 |.Continue _,_,ρ,s=>some (.cont,ρ,s)
 |.Return e _,sc,ρ,s=>z8 I e sc ρ s
 |.If t b e _,sc,ρ,s=>b2 (evT I t sc ρ s) λc s=>eB c (Dn b sc ρ s) (Dn e sc ρ s)
 |.Assign ts e p,sc,ρ,s=>o1 (sole ts) λt=>exA I t e p sc ρ s
 |.Expr e _,sc,ρ,s=>exX I e sc ρ s
 |.For t it body els _,sc,ρ,s=>iB els.isEmpty (A63 I t it (λρ s=>Dn body sc ρ s) sc ρ s)
 |.While t body els p,sc,ρ,s=>iB els.isEmpty (o1 (C2 t) λx=>iB (Et sc x) (Uf (λρ s=>o1 (Nh x ρ) λv=>I.pb p (Qk v) s) (λρ s=>Dn body sc ρ s) 100 ρ s))
 |_,_,_,_=>none
noncomputable def Dn:List Stmt→Scope→A1→S→Option (Fl×A1×S)
 |[],_,ρ,s=>some (.nx,ρ,s)
 |st::ss,sc,ρ,s=>b2 (I.hs st sc ρ s (P9 st sc ρ s)) λfl r=>match fl with
  |.nx=>Dn ss sc r.1 r.2
  |fl=>some (fl,r)
end
noncomputable def Gk:List Str→List V→List RV→Option A1
 |[],_,[]=>some []
 |p::ps,ds,(v,k)::rs=>o1 (Gk ps ds rs) λρ=>some ((p,(match k with|.al _=>.bor|_=>.val),v)::ρ)
 |p::ps,ds,[]=>iB (Nat.ble (ps.length+1) ds.length) (o1 (ds.drop (ds.length-(ps.length+1))).head? λd=>o1 (Gk ps ds []) λρ=>some ((p,.val,d)::ρ))
 |[],_,_::_=>none
set_option backward.match.sparseCases true in
noncomputable def C13:Fl→Option RV
 |.ret r=>some r
 |.nx=>some (.d .none,.cl)
 |.cont=>none
noncomputable def wB(fd:Fd)(rs:List RV)(s:S):Option (RV×S):=
 o1 (Gk fd.params fd.dfl rs) λρ=>b2 (Dn I fd.body fd.scope ρ s) λfl r=>o1 (C13 fl) λv=>some (v,r.2)
noncomputable def Te(fd:Fd)(v:V)(s:S):Option (V×S):=match fd.params with
 |[p]=>iB (l9 fd.body) (b2 (Dn I fd.body fd.scope [(p,.own,v)] s) λfl r=>match fl with
  |.nx=>o1 (Nh p r.1) λv=>some (v,r.2)
  |_=>none)
 |_=>none
end
noncomputable def C60(call:Str→List RV→Sg→Option (RV×Sg))(io:Str→V→Sg→Option (V×Sg)):If Sg where
 get σ:=σ
 put _ σ:=σ
 call:=call
 io:=io
 pv _ t s:=o1 t λr=>some (r,s)
 pb _ t s:=o1 t λr=>some (r,s)
 pl _ t s:=o1 t λr=>some (r,s)
 hc _ _ _ _ r:=r
 hs _ _ _ _ r:=r
structure Wc where
 call:Str→List RV→Sg→Option (RV×Sg)
 io:Str→V→Sg→Option (V×Sg)
 env:Nat→Bool
noncomputable abbrev rl(w:Wc):If Sg:=C60 w.call w.io
noncomputable def Iw{S:Type}(I:If S)(f:Str)(rs:List RV)(s:S):Option (RV×S):=o1 (fn f) λfd=>wB I fd rs s
noncomputable def X0{S:Type}(I:If S)(f:Str)(v:V)(s:S):Option (V×S):=o1 (fn f) λfd=>Te I fd v s
noncomputable def cx:Nat→Wc
 |0=>⟨λη η η=>none,λη η η=>none,λη=>false⟩
 |k+1=>⟨Iw (rl (cx k)),X0 (rl (cx k)),λη=>false⟩
noncomputable def wE(w:Wc)(e:Nat→Bool):Wc:=⟨w.call,w.io,e⟩
end
section
open PySem
theorem Uj:∀a b:List Nat,sI a b=true↔a=b
 |[],[]=>⟨λη=>rfl,λη=>rfl⟩
 |[],_::_=>⟨λh=>(Bool.noConfusion h),λh=>(nomatch h)⟩
 |_::_,[]=>⟨λh=>(Bool.noConfusion h),λh=>(nomatch h)⟩
 |a::x,b::y=>by
  show(match Nat.beq a b with|true=>sI x y|false=>false)=true↔_
  rw[List.cons.injEq,← Uj x y,← Nat.beq_eq]
  cases Nat.beq a b
  ·exact⟨λh=>(Bool.noConfusion h),λh=>(nomatch h.1)⟩
  ·exact⟨λh=>⟨rfl,h⟩,λh=>h.2⟩
theorem Bm{a b:Str}:sq a b=true↔a=b:=(Uj _ _).trans ⟨λh=>by cases a;cases b;exact congrArg Str.mk (Array.toList_inj.mp h),λh=>h▸rfl⟩
theorem Mk(a:Str):sq a a=true:=Bm.mpr rfl
theorem w8{a b:Str}(h:a≠b):sq a b=false:=oT λe=>h (Bm.mp e)
theorem Ck{α:Type}(x y:Str)(v:α)(l:List (Str×α)):lk x ((y,v)::l)=if x=y then some v else lk x l:=by
 show(match sq x y with|true=>some v|false=>lk x l)=_
 by_cases h:x=y
 ·rw[if_pos h,h,Mk]
 ·rw[if_neg h,w8 h]
theorem Fi{α:Type}(x y:Str)(v:α):∀l:List (Str×α),lk x (up y v l)=if x=y then some v else lk x l
 |[]=>Ck x y v []
 |(z,u)::r=>by
  rw[Ck]
  show lk x (match sq y z with|true=>(z,v)::r|false=>(z,u)::up y v r)=_
  by_cases hz:y=z
  ·subst hz
   rw[Mk]
   by_cases h:x=y
   ·rw[if_pos h];exact(Ck ..).trans (if_pos h)
   ·rw[if_neg h,if_neg h];exact(Ck ..).trans (if_neg h)
  ·rw[w8 hz]
   refine(Ck ..).trans ?_
   rw[Fi x y v r]
   by_cases h:x=z
   ·rw[if_pos h,if_pos h,if_neg λe=>hz (e.symm.trans h)]
   ·rw[if_neg h,if_neg h]
noncomputable def out:Expr→Bool
 |.NamedExpr ..|.Lambda ..|.Set ..|.SetComp ..|.DictComp ..|.GeneratorExp ..|.Await ..|.Yield ..|.YieldFrom ..|.FormattedValue ..|.JoinedStr ..|.Starred ..=>true
 |_=>false
section
variable{P:Expr→Prop}{L:List Expr→Prop}{O:Option Expr→Prop}{C:List Comprehension→Prop}
 (h1:∀c k p,P (.Constant c k p)) (h2:∀x p,P (.Name x p)) (h3:∀op vs p,L vs→P (.BoolOp op vs p)) (h4:∀l op r p,P l→P r→P (.BinOp l op r p))
 (h5:∀op x p,P x→P (.UnaryOp op x p)) (h6:∀t a b p,P t→P a→P b→P (.IfExp t a b p)) (h7:∀l ops cs p,P l→L cs→P (.Compare l ops cs p))
 (h8:∀e a p,P e→P (.Attribute e a p)) (h9:∀e i p,P e→P i→P (.Subscript e i p)) (h10:∀lo hi st p,O lo→O hi→O st→P (.Slice lo hi st p))
 (h11:∀es k p,L es→P (.Tuple es k p)) (h12:∀es p,L es→P (.List es p)) (h13:∀ks vs p,L vs→P (.Dict ks vs p)) (h14:∀elt gs cs p,P elt→C gs→P (.ListComp elt gs cs p))
 (h15:∀f args ks r,P f→L args→P (.Call f args ks r)) (h16:∀e,out e=true→P e) (l1:L []) (l2:∀e es,P e→L es→L (e::es)) (o1:O none) (o2:∀e,P e→O (some e))
 (c1:C []) (c2:∀t it ifs k gs,P it→L ifs→C (⟨t,it,ifs,k⟩::gs))
include h1 h2 h3 h4 h5 h6 h7 h8 h9 h10 h11 h12 h13 h14 h15 h16 l1 l2 o1 o2 c1 c2
mutual
theorem Uz:∀e:Expr,P e
 |.Constant c k p=>h1 c k p
 |.Name x p=>h2 x p
 |.BoolOp op vs p=>h3 op vs p (Uy vs)
 |.BinOp l op r p=>h4 l op r p (Uz l) (Uz r)
 |.UnaryOp op x p=>h5 op x p (Uz x)
 |.IfExp t a b p=>h6 t a b p (Uz t) (Uz a) (Uz b)
 |.Compare l ops cs p=>h7 l ops cs p (Uz l) (Uy cs)
 |.Attribute e a p=>h8 e a p (Uz e)
 |.Subscript e i p=>h9 e i p (Uz e) (Uz i)
 |.Slice lo hi st p=>h10 lo hi st p (A24 lo) (A24 hi) (A24 st)
 |.Tuple es k p=>h11 es k p (Uy es)
 |.List es p=>h12 es p (Uy es)
 |.Dict ks vs p=>h13 ks vs p (Uy vs)
 |.ListComp elt gs cs p=>h14 elt gs cs p (Uz elt) (C86 gs)
 |.Call f args ks r=>h15 f args ks r (Uz f) (Uy args)
 |.NamedExpr ..=>h16 _ rfl
 |.Lambda ..=>h16 _ rfl
 |.Set ..=>h16 _ rfl
 |.SetComp ..=>h16 _ rfl
 |.DictComp ..=>h16 _ rfl
 |.GeneratorExp ..=>h16 _ rfl
 |.Await ..=>h16 _ rfl
 |.Yield ..=>h16 _ rfl
 |.YieldFrom ..=>h16 _ rfl
 |.FormattedValue ..=>h16 _ rfl
 |.JoinedStr ..=>h16 _ rfl
 |.Starred ..=>h16 _ rfl
theorem Uy:∀es:List Expr,L es
 |[]=>l1
 |e::es=>l2 e es (Uz e) (Uy es)
theorem A24:∀e:Option Expr,O e
 |none=>o1
 |some e=>o2 e (Uz e)
theorem C86:∀gs:List Comprehension,C gs
 |[]=>c1
 |⟨t,it,ifs,k⟩::gs=>c2 t it ifs k gs (Uz it) (Uy ifs)
end
end
theorem Xv.el{P:Expr→Xv→Prop}(con:∀c k p,P (.Constant c k p) (.con c))(name:∀x p,P (.Name x p) (.name x))(attr:∀e a p,P (.Attribute e a p) (.attr e a p))(sub:∀b i p,P (.Subscript b i p) (.sub b i))
  (tup:∀es k p,P (.Tuple es k p) (.tup es)) (lst:∀es p,P (.List es p) (.lst es)) (dct:∀ks vs p,P (.Dict ks vs p) (.dct ks vs)) (call:∀f args ks r,P (.Call f args ks r) (.call f args ks r)) (oth:∀e,P e .oth) (e:Expr):P e (xw e):=by
 cases e<;>first|exact con _ _ _|exact name _ _|exact attr _ _ _|exact sub _ _ _|exact tup _ _ _|exact lst _ _|exact dct _ _ _|exact call _ _ _ _|exact oth _
theorem Bq{e:Expr}{x:Str}(h:C2 e=some x):∃p,e=.Name x p:=by
 cases e<;>first|exact Ao h|(cases h;exact⟨_,rfl⟩)
theorem Rx{S:Type}{I:If S}{e:Expr}(h:out e=true):ev I e=evN I:=by
 cases e<;>first|rfl|cases h
end
section
open PySem
structure Bn(ρ l:A1):Prop where
 dot:lk ".0" ρ=lk ".0" l
 at':∀x p,lk x l=some p→lk x ρ=some p
inductive Qy where
 |v(t:Option RV)|b(t:Option Bool)|l(t:Option (List PyData))
 |c(f:Str)(rs:List RV)(σ:Sg)|i(f:Str)(v:V)(σ:Sg)
 |e(e:Expr)(sc:Scope)(l:A1)(σ:Sg)|s(s:Stmt)(sc:Scope)(l:A1)(σ:Sg)
inductive As where
 |v(r:RV)|b(b:Bool)|l(xs:List PyData)|c(r:RV)(σ:Sg)|i(v:V)(σ:Sg)|s(f:Fl)(l:A1)(σ:Sg)|bi(i:Nat)
noncomputable def As.pv(σ:Sg):As→Option (RV×Sg)
 |.v r=>some (r,σ)
 |_=>none
noncomputable def As.pb(e:Nat→Bool)(σ:Sg):As→Option (Bool×Sg)
 |.b r=>some (r,σ)
 |.bi j=>some (e j,σ)
 |_=>none
noncomputable def As.pl(σ:Sg):As→Option (List PyData×Sg)
 |.l r=>some (r,σ)
 |_=>none
noncomputable def As.pc:As→Option (RV×Sg)
 |.c r z=>some (r,z)
 |_=>none
noncomputable def As.pi:As→Option (V×Sg)
 |.i r z=>some (r,z)
 |_=>none
noncomputable def As.ps:As→Option ((Fl×A1)×Sg)
 |.s f k z=>some ((f,k),z)
 |_=>none
noncomputable def holds(w:Wc):Qy→As→Prop
 |.v t,.v r=>t=some r
 |.b t,.b r=>t=some r
 |.b t,.bi i=>t=some (w.env i)
 |.l t,.l r=>t=some r
 |.c f rs σ,.c r σ'=>w.call f rs σ=some (r,σ')
 |.i f v σ,.i r σ'=>w.io f v σ=some (r,σ')
 |.e e sc l σ,.c r σ'=>∀ρ,Bn ρ l→J7 (rl w) e sc ρ σ=some (r,σ')
 |.s s sc l σ,.s f l' σ'=>∀ρ,Bn ρ l→∃ρ',P9 (rl w) s sc ρ σ=some (f,ρ',σ')∧Bn ρ' l'
 |_,_=>False
structure Aw(w:Wc) where
 at_:Nat
 q:Qy
 a:As
 ok:holds w q a
structure XS(w:Wc) where
 σ:Sg
 an:List (Aw w)
 lg:List (Qy×Qy)
noncomputable def key(p:Pos):Nat:=p.line*1000000+p.col*1000+p.endCol
section
variable{w:Wc}{α β γ:Type}
noncomputable def P4(ok:Nat→Qy→Bool)(pick:As→Option (α×Sg)):List (Aw w)→Option ((α×Sg)×Qy×List (Aw w))
 |[]=>none
 |a::an=>match ok a.at_ a.q with
  |false=>P4 ok pick an
  |true=>match pick a.a with
   |none=>P4 ok pick an
   |some z=>some (z,a.q,an)
noncomputable def ask(s:XS w)(ok:Nat→Qy→Bool)(q:Qy)(pick:As→Option (α×Sg))(d:Option (α×XS w)):Option (α×XS w):=match P4 ok pick s.an with
 |none=>d
 |some (z,q',an)=>some (z.1,⟨z.2,an,(q,q')::s.lg⟩)
noncomputable def isC(f:Str):Nat→Qy→Bool
 |_,.c g _ _=>sq f g
 |_,_=>false
noncomputable def isI(f:Str):Nat→Qy→Bool
 |_,.i g _ _=>sq f g
 |_,_=>false
noncomputable def isK(k:Nat)(n:Nat)(_:Qy):Bool:=Nat.beq n k
noncomputable def Xe(en:Nat→Bool):If (XS w) where
 get s:=s.σ
 put s σ:={s with σ:=σ}
 call f rs s:=ask s (isC f) (.c f rs s.σ) As.pc (b2 (w.call f rs s.σ) λr σ=>some (r,{s with σ:=σ}))
 io f v s:=ask s (isI f) (.i f v s.σ) As.pi (b2 (w.io f v s.σ) λr σ=>some (r,{s with σ:=σ}))
 pv p t s:=ask s (isK (key p)) (.v t) (As.pv s.σ) (o1 t λr=>some (r,s))
 pb p t s:=ask s (isK (key p)) (.b t) (As.pb en s.σ) (o1 t λr=>some (r,s))
 pl p t s:=ask s (isK (key p)) (.l t) (As.pl s.σ) (o1 t λr=>some (r,s))
 hc e sc l s r:=ask s (isK (key e.pos)) (.e e sc l s.σ) As.pc r
 hs t sc l s r:=match P4 (isK t.pos.line) As.ps s.an with
  |none=>r
  |some (z,q',an)=>some (z.1.1,z.1.2,⟨z.2,an,(.s t sc l s.σ,q')::s.lg⟩)
noncomputable abbrev X:If (XS w):=Xe w.env
noncomputable def XS.Ok(s:XS w):Prop:=∀p∈s.lg,p.1=p.2
noncomputable def Rl(s:XS w)(a:Option (α×XS w))(b:Option (α×Sg)):Prop:=∀x s',a=some (x,s')→s'.Ok→s.Ok∧b=some (x,s'.σ)
variable{s:XS w}
theorem Rl.no{b:Option (α×Sg)}:Rl s none b:=λη η h=>Ao h
theorem Rl.set(x:α)(σ:Sg):Rl s (some (x,{s with σ:=σ})) (some (x,σ)):=λη η h k=>by cases h;exact⟨k,rfl⟩
theorem Rl.ret(x:α):Rl s (some (x,s)) (some (x,s.σ)):=.set x _
theorem Rl.b2{a:Option (γ×XS w)}{b:Option (γ×Sg)}{f:γ→XS w→Option (β×XS w)}{g:γ→Sg→Option (β×Sg)}(h:Rl s a b)(k:∀v s',Rl s' (f v s') (g v s'.σ)):Rl s (b2 a f) (b2 b g):=λx s' e o=>
 match a,h,e with
 |some (v,s1),h,e=>
  let⟨o1,e1⟩:=k v s1 x s' e o
  let⟨o2,e2⟩:=h v s1 rfl o1
  ⟨o2,(congrArg (Mine.b2 · g) e2).trans e1⟩
theorem Rl.b1{a:Option (RV×XS w)}{b:Option (RV×Sg)}{f:V→Kd→XS w→Option (β×XS w)}{g:V→Kd→Sg→Option (β×Sg)}(h:Rl s a b)(k:∀v kd s',Rl s' (f v kd s') (g v kd s'.σ)):Rl s (b1 a f) (b1 b g):=λx s' e o=>
 match a,h,e with
 |some ((v,kd),s1),h,e=>
  let⟨o1,e1⟩:=k v kd s1 x s' e o
  let⟨o2,e2⟩:=h _ s1 rfl o1
  ⟨o2,(congrArg (Mine.b1 · g) e2).trans e1⟩
theorem Rl.o1{a:Option γ}{f:γ→Option (β×XS w)}{g:γ→Option (β×Sg)}(k:∀v,Rl s (f v) (g v)):Rl s (o1 a f) (o1 a g):=match a with
 |none=>.no
 |some v=>k v
theorem Rl.nd{a:Option (β×XS w)}{b:Option (β×Sg)}{c:Bool}(h:c=true→Rl s a b):Rl s (iB c a) (iB c b):=match c,h with
 |false,_=>.no
 |true,h=>h rfl
theorem Rl.iB{a:Option (β×XS w)}{b:Option (β×Sg)}{c:Bool}(h:Rl s a b):Rl s (iB c a) (iB c b):=.nd λη=>h
theorem Rl.eB{a a':Option (β×XS w)}{b b':Option (β×Sg)}{c:Bool}(h:Rl s a b)(h':Rl s a' b'):Rl s (eB c a a') (eB c b b'):=match c with
 |false=>h'
 |true=>h
theorem Rl.op{a:Option α}:Rl s (Mine.o1 a λr=>some (r,s)) (Mine.o1 a λr=>some (r,s.σ)):=.o1 λη=>.ret _
theorem Zx{σ:Sg}{an:List (Aw w)}{p:Qy×Qy}(o:XS.Ok ⟨σ,an,p::s.lg⟩):s.Ok∧p.1=p.2:=⟨λq hq=>o q (.tail _ hq),o p (.head _)⟩
theorem Zr{ok:Nat→Qy→Bool}{pick:As→Option (α×Sg)}{z:α×Sg}{q:Qy}{r as:List (Aw w)}:P4 ok pick as=some (z,q,r)→∃a,holds w q a∧pick a=some z:=by
 induction as with
 |nil=>exactλh=>Ao h
 |cons a as ih=>
  intro h
  replace h:(match ok a.at_ a.q with|false=>P4 ok pick as|true=>match pick a.a with|none=>P4 ok pick as|some z=>some (z,a.q,as))=some (z,q,r):=h
  cases e:ok a.at_ a.q with
  |false=>rw[e]at h;exact ih h
  |true=>
   rw[e]at h
   cases e2:pick a.a with
   |none=>rw[e2]at h;exact ih h
   |some y=>rw[e2]at h;cases h;exact⟨a.a,a.ok,e2⟩
theorem Rl.ask{ok:Nat→Qy→Bool}{q:Qy}{pick:As→Option (α×Sg)}{d:Option (α×XS w)}{b:Option (α×Sg)}(h:∀a x σ,holds w q a→pick a=some (x,σ)→b=some (x,σ))(hd:Rl s d b):Rl s (ask s ok q pick d) b:=by
 unfold Mine.ask
 cases e:P4 ok pick s.an with
 |none=>exact hd
 |some y=>
  obtain⟨z,q',an⟩:=y
  obtain⟨a,h1,h2⟩:=Zr e
  intro x s' e' o
  cases e'
  obtain⟨o1,o2⟩:=Zx o
  exact⟨o1,h a _ _ ((show q=q' from o2)▸h1) h2⟩
theorem Rl.pv(p:Pos)(t:Option RV):Rl s (X.pv p t s) ((rl w).pv p t s.σ):=.ask (λa x σ h e=>by cases a<;>cases e;exact(show t=_ from h)▸rfl) .op
theorem Rl.pb(p:Pos)(t:Option Bool):Rl s (X.pb p t s) ((rl w).pb p t s.σ):=.ask (λa x σ h e=>by cases a<;>cases e<;>exact show Mine.o1 t _=_ by rw[show t=_ from h];rfl) .op
theorem Rl.pl(p:Pos)(t:Option (List PyData)):Rl s (X.pl p t s) ((rl w).pl p t s.σ):=.ask (λa x σ h e=>by cases a<;>cases e;exact(show t=_ from h)▸rfl) .op
theorem Rl.run{a:Option (α×Sg)}:Rl s (Mine.b2 a λr σ=>some (r,{s with σ:=σ})) a:=match a with
 |none=>.no
 |some (_,_)=>.set _ _
theorem Rl.call(f:Str)(rs:List RV):Rl s (X.call f rs s) ((rl w).call f rs s.σ):=.ask (λa x σ h e=>by cases a<;>cases e;exact h) .run
theorem Rl.io(f:Str)(v:V):Rl s (X.io f v s) ((rl w).io f v s.σ):=.ask (λa x σ h e=>by cases a<;>cases e;exact h) .run
noncomputable def Rf(f:Fn (XS w) α)(g:Fn Sg α):Prop:=∀sc l ρ s,Bn ρ l→Rl s (f sc l s) (g sc ρ s.σ)
structure RE(f:Ev (XS w))(g:Ev Sg):Prop where
 val:Rf f.val g.val
 tst:Rf f.tst g.tst
 itr:Rf f.itr g.itr
 idx:∀o p,Rf (f.idx o p) (g.idx o p)
 cll:∀n al al' is is' r,Rf al al'→Rf is is'→Rf (f.cll n al is r) (g.cll n al' is' r)
theorem RE.evV(p:Pos){f:Fn (XS w) RV}{g:Fn Sg RV}(h:Rf f g):RE (evV X p f) (evV (rl w) p g) where
 val:=h
 tst sc l ρ s a:=.b1 (h sc l ρ s a) λη η η=>.pb _ _
 itr sc l ρ s a:=.b1 (h sc l ρ s a) λη η η=>.pl _ _
 idx _ _ sc l ρ s a:=.b1 (h sc l ρ s a) λη η η=>.pv _ _
 cll _ _ _ _ _ _ _ _ _ _ _ _ _:=.no
theorem RE.evN:RE (evN (X (w:=w))) (evN (rl w)):=.evV _ λη η η η η=>.no
theorem RE.t{a:Ev (XS w)}{b:Ev Sg}(h:RE a b){t:Fn (XS w) Bool}{t':Fn Sg Bool}(k:Rf t t'):RE {a with tst:=t} {b with tst:=t'}:={h with tst:=k}
theorem RE.c{a:Ev (XS w)}{b:Ev Sg}(h:RE a b){t:Nat→Fn (XS w) (List RV)→Fn (XS w) RV→Pos→Fn (XS w) RV}{t':Nat→Fn Sg (List RV)→Fn Sg RV→Pos→Fn Sg RV}(k:∀n al al' is is' r,Rf al al'→Rf is is'→Rf (t n al is r) (t' n al' is' r)):RE {a with cll:=t} {b with cll:=t'}:={h with cll:=k}
inductive Mg:List (Ev (XS w))→List (Ev Sg)→Prop
 |nil:Mg [] []
 |cons {a b as bs}:RE a b→Mg as bs→Mg (a::as) (b::bs)
inductive REo:Option (Ev (XS w))→Option (Ev Sg)→Prop
 |none:REo none none
 |some {a b}:RE a b→REo (some a) (some b)
theorem Mg.tsts(op:BoolOp){as:List (Ev (XS w))}{bs:List (Ev Sg)}(h:Mg as bs):Rf (Pa op as) (Pa op bs):=by
 induction h with
 |nil=>exactλη η η η η=>.ret _
 |cons a _ ih=>exactλsc l ρ s z=>.b2 (a.tst sc l ρ s z) λη s'=>match op with
  |.And=>.eB (ih sc l ρ s' z) (.ret _)
  |.Or=>.eB (.ret _) (ih sc l ρ s' z)
theorem Mg.emp{as:List (Ev (XS w))}{bs:List (Ev Sg)}(h:Mg as bs):as.isEmpty=bs.isEmpty:=by induction h<;>rfl
theorem Mg.bs(op:BoolOp)(p:Pos){as:List (Ev (XS w))}{bs:List (Ev Sg)}(h:Mg as bs):Rf (evB X op as p) (evB (rl w) op bs p):=by
 induction h with
 |nil=>exactλη η η η η=>.no
 |cons a h ih=>exactλsc l ρ s z=>.b1 (a.val sc l ρ s z) λη η s'=>h.emp▸.eB (.ret _) (.b2 (.pb _ _) λη s'=>match op with
   |.And=>.eB (ih sc l ρ s' z) (.ret _)
   |.Or=>.eB (.ret _) (ih sc l ρ s' z))
theorem Mg.as{as:List (Ev (XS w))}{bs:List (Ev Sg)}(h:Mg as bs):Rf (evA as) (evA bs):=by
 induction h with
 |nil=>exactλη η η η η=>.ret _
 |cons a _ ih=>exactλsc l ρ s z=>.b2 (a.tst sc l ρ s z) λη s'=>.eB (ih sc l ρ s' z) (.ret _)
theorem Mg.ls{as:List (Ev (XS w))}{bs:List (Ev Sg)}(h:Mg as bs):Rf (Mu as) (Mu bs):=by
 induction h with
 |nil=>exactλη η η η η=>.ret _
 |cons a _ ih=>exactλsc l ρ s z=>.b1 (a.val sc l ρ s z) λη η s'=>.b2 (ih sc l ρ s' z) λη η=>.ret _
theorem Mg.ms{as:List (Ev (XS w))}{bs:List (Ev Sg)}(h:Mg as bs):∀ks,Rf (oS ks as) (oS ks bs):=by
 induction h with
 |nil=>exactλks sc l ρ s z=>match ks with
  |[]=>.ret _
  |_::_=>.no
 |cons a _ ih=>exactλks sc l ρ s z=>match ks with
  |[]=>.no
  |_::ks=>.o1 λη=>.b1 (a.val sc l ρ s z) λη η s'=>.o1 λη=>.b2 (ih _ sc l ρ s' z) λη η=>.iB (.ret _)
theorem Mg.mx{as:List (Ev (XS w))}{bs:List (Ev Sg)}(h:Mg as bs)(ks:List (Option Expr)):Rf (evX ks as) (evX ks bs):=λsc l ρ s z=>.b2 (h.ms ks sc l ρ s z) λη η=>.iB (.ret _)
theorem REo.os{a:Option (Ev (XS w))}{b:Option (Ev Sg)}:REo a b→Rf (evO a) (evO b)
 |.none=>λη η η η η=>.ret _
 |.some h=>λsc l ρ s z=>.b1 (h.val sc l ρ s z) λη η η=>.o1 λη=>.ret _
end
end
section
open PySem
section
variable{w:Wc}{α β γ:Type}{s:XS w}{ρ l:A1}
theorem Rl.ol{a b:Option γ}{f:γ→Option (β×XS w)}{g:γ→Option (β×Sg)}(h:∀v,a=some v→b=some v)(k:∀v,Rl s (f v) (g v)):Rl s (Mine.o1 a f) (Mine.o1 b g):=match a,h with
 |none,_=>.no
 |some v,h=>by rw[h v rfl];exact k v
theorem Rl.callV(p:Pos)(f:Str)(rs:List RV):Rl s (callV X p f rs s) (callV (rl w) p f rs s.σ):=by
 unfold Mine.callV
 cases nT f with
 |some _=>exact .pv _ _
 |none=>match Kc f with
  |none=>exact .iB (.call _ _)
  |some (c,init)=>exact Rl.b1 (s:=s) (Rl.call (s:={s with σ:=_}) _ _) λv η s'=>match isNone v with
   |true=>.ret _
   |false=>.no
theorem Rl.callM(p:Pos)(m:Option Str)(v:V)(rs:List RV):Rl s (callM X p m v rs s) (callM (rl w) p m v rs s.σ):=match m with
 |none=>.pv _ _
 |some _=>.call _ _
theorem Rl.fold{f:PyData→XS w→Option (Option PyData×XS w)}{g:PyData→Sg→Option (Option PyData×Sg)}(h:∀x s,Rl s (f x s) (g x s.σ)):∀(xs:List PyData)(s:XS w),Rl s (Hz f xs s) (Hz g xs s.σ)
 |[],_=>.ret _
 |_::xs,s=>.b2 (h _ s) λη s'=>.b2 (fold h xs s') λη η=>.ret _
theorem Bn.self{ρ:A1}:Bn ρ ρ:=⟨rfl,λη η=>id⟩
theorem Bn.cons(h:Bn ρ l)(x:Str)(p:SK×V):Bn ((x,p)::ρ) ((x,p)::l):=by
 refine⟨?_,λy q=>?_⟩
 ·rw[Ck,Ck,h.dot]
 ·rw[Ck,Ck]
  by_cases c:y=x
  ·rw[if_pos c,if_pos c];exact id
  ·rw[if_neg c,if_neg c];exact h.at' y q
theorem Bn.up(h:Bn ρ l)(x:Str)(p:SK×V):Bn (up x p ρ) (up x p l):=by
 refine⟨?_,λy q=>?_⟩
 ·rw[Fi,Fi,h.dot]
 ·rw[Fi,Fi]
  by_cases c:y=x
  ·rw[if_pos c,if_pos c];exact id
  ·rw[if_neg c,if_neg c];exact h.at' y q
theorem Bn.frzX(h:Bn ρ l)(x:Str):Bn (frzX x ρ) (frzX x l):=by
 unfold Mine.frzX
 cases e:lk x l with
 |some p=>
  rw[h.at' x p e]
  match p with
  |(.own,v)=>exact h.up x _
  |(.val,_)=>exact h
  |(.bor,_)=>exact h
 |none=>
  cases e':lk x ρ with
  |none=>exact h
  |some p=>
   match p with
   |(.val,_)=>exact h
   |(.bor,_)=>exact h
   |(.own,v)=>
    refine⟨?_,λy q z=>?_⟩
    ·rw[Fi,if_neg λc=>by rw[← c,← h.dot,c,e']at e;cases e]
     exact h.dot
    ·rw[Fi,if_neg λc=>by rw[c,e]at z;cases z]
     exact h.at' y q z
theorem Bn.frz:∀(es:List Expr){ρ l:A1},Bn ρ l→Bn (frz es ρ) (frz es l)
 |[],_,_,h=>h
 |e::es,ρ,l,h=>frz es (match C2 e with
  |none=>h
  |some x=>h.frzX x)
theorem Bn.frzE(h:Bn ρ l)(e:Expr):Bn (frzE e ρ) (frzE e l):=by
 unfold Mine.frzE
 cases xw e<;>first|exact h|exact h.frz _
theorem Bn.frzK(h:Bn ρ l)(k:Kd):Bn (frzK k ρ) (frzK k l):=match k with
 |.al x=>h.frzX x
 |.cl=>h
 |.fr=>h
noncomputable def Rs{α:Type}(s:XS w)(a:Option (α×A1×XS w))(b:Option (α×A1×Sg)):Prop:=∀f l' s',a=some (f,l',s')→s'.Ok→s.Ok∧∃ρ',b=some (f,ρ',s'.σ)∧Bn ρ' l'
theorem Rs.no{b:Option (α×A1×Sg)}:Rs s none b:=λη η η h=>Ao h
theorem Rs.set(h:Bn ρ l)(f:α)(σ:Sg):Rs s (some (f,l,{s with σ:=σ})) (some (f,ρ,σ)):=λη η η e k=>by cases e;exact⟨k,_,rfl,h⟩
theorem Rs.ret(h:Bn ρ l)(f:α):Rs s (some (f,l,s)) (some (f,ρ,s.σ)):=.set h f _
theorem Rs.b2{a:Option (γ×XS w)}{b:Option (γ×Sg)}{f:γ→XS w→Option (α×A1×XS w)}{g:γ→Sg→Option (α×A1×Sg)}(h:Rl s a b)(k:∀v s',Rs s' (f v s') (g v s'.σ)):Rs s (b2 a f) (b2 b g):=λx y s' e o=>
 match a,h,e with
 |some (v,s1),h,e=>
  let⟨o1,e1⟩:=k v s1 x y s' e o
  let⟨o2,e2⟩:=h v s1 rfl o1
  ⟨o2,e2▸e1⟩
theorem Rs.b1{a:Option (RV×XS w)}{b:Option (RV×Sg)}{f:V→Kd→XS w→Option (α×A1×XS w)}{g:V→Kd→Sg→Option (α×A1×Sg)}(h:Rl s a b)(k:∀v kd s',Rs s' (f v kd s') (g v kd s'.σ)):Rs s (b1 a f) (b1 b g):=λx y s' e o=>
 match a,h,e with
 |some ((v,kd),s1),h,e=>
  let⟨o1,e1⟩:=k v kd s1 x y s' e o
  let⟨o2,e2⟩:=h _ s1 rfl o1
  ⟨o2,e2▸e1⟩
theorem Rs.sq{a:Option (β×A1×XS w)}{b:Option (β×A1×Sg)}{f:β→A1×XS w→Option (α×A1×XS w)}{g:β→A1×Sg→Option (α×A1×Sg)}(h:Rs s a b)(k:∀v l ρ s',Bn ρ l→Rs s' (f v (l,s')) (g v (ρ,s'.σ))):Rs s (Mine.b2 a f) (Mine.b2 b g):=λx y s' e o=>
 match a,h,e with
 |some (v,l,s1),h,e=>
  let⟨o2,ρ,e2,h2⟩:=h v l s1 rfl (match k v l l s1 .self x y s' e o with|⟨o,_⟩=>o)
  ⟨o2,e2▸(k v l ρ s1 h2 x y s' e o).2⟩
theorem Rs.o1{a:Option γ}{f:γ→Option (α×A1×XS w)}{g:γ→Option (α×A1×Sg)}(k:∀v,a=some v→Rs s (f v) (g v)):Rs s (o1 a f) (o1 a g):=match a,k with
 |none,_=>.no
 |some v,k=>k v rfl
theorem Rs.ol{a b:Option γ}{f:γ→Option (α×A1×XS w)}{g:γ→Option (α×A1×Sg)}(h:∀v,a=some v→b=some v)(k:∀v,Rs s (f v) (g v)):Rs s (Mine.o1 a f) (Mine.o1 b g):=match a,h with
 |none,_=>.no
 |some v,h=>by rw[h v rfl];exact k v
theorem Rs.iB{a:Option (α×A1×XS w)}{b:Option (α×A1×Sg)}{c:Bool}(h:Rs s a b):Rs s (iB c a) (iB c b):=match c with
 |false=>.no
 |true=>h
theorem Rs.eB{a a':Option (α×A1×XS w)}{b b':Option (α×A1×Sg)}{c:Bool}(h:Rs s a b)(h':Rs s a' b'):Rs s (eB c a a') (eB c b b'):=match c with
 |false=>h'
 |true=>h
theorem Bn.own(h:Bn ρ l)(x:Str):∀v,Nh x l=some v→Nh x ρ=some v:=by
 unfold Nh
 cases e:lk x l with
 |none=>exactλη h=>Ao h
 |some p=>rw[h.at' _ _ e];exactλη=>id
end
end
section
open PySem
section
variable{w:Wc}{α:Type}{s:XS w}
inductive RC:Option (Cm (XS w))→Option (Cm Sg)→Prop
 |none:RC none none
 |some {x i i' t t'}:RE i i'→Mg t t'→RC (some ⟨x,i,t⟩) (some ⟨x,i',t'⟩)
theorem Rl.one{as:List (Ev (XS w))}{bs:List (Ev Sg)}{f:Ev (XS w)→Option (α×XS w)}{g:Ev Sg→Option (α×Sg)}(k:∀a b,RE a b→Rl s (f a) (g b))(h:Mg as bs):Rl s (Mine.o1 (Mine.sole as) f) (Mine.o1 (Mine.sole bs) g):=by
 induction h with
 |nil=>exact .no
 |cons h t=>induction t with
  |nil=>exact k _ _ h
  |cons=>exact .no
theorem Rl.two{as:List (Ev (XS w))}{bs:List (Ev Sg)}{f:Ev (XS w)×Ev (XS w)→Option (α×XS w)}{g:Ev Sg×Ev Sg→Option (α×Sg)}(k:∀a b c d,RE a b→RE c d→Rl s (f (a,c)) (g (b,d)))(h:Mg as bs):Rl s (Mine.o1 (Mine.duo as) f) (Mine.o1 (Mine.duo bs) g):=by
 induction h with
 |nil=>exact .no
 |cons h t=>induction t with
  |nil=>exact .no
  |cons h' t=>induction t with
   |nil=>exact k _ _ _ _ h h'
   |cons=>exact .no
theorem rK{ops:List CmpOp}{cs:List Expr}{l:Ev (XS w)}{l':Ev Sg}{rs:List (Ev (XS w))}{rs':List (Ev Sg)}(p:Pos)(h:RE l l')(h2:Mg rs rs'):RE (evK X ops cs l rs p) (evK (rl w) ops cs l' rs' p):=
 {RE.evV (w:=w) p (λsc k ρ s z=>.o1 λη=>.one (λη η r=>.b1 (h.val sc k ρ s z) λη η s'=>.b1 (r.val sc k ρ s' z) λη η η=>.b2 (.pb _ _) λη η=>.ret _) h2)with
  tst:=λsc k ρ s z=>by
   unfold evK
   cases Mine.sole ops with
   |some op=>exact .one (λη η r=>.b1 (h.val sc k ρ s z) λη η s'=>.b1 (r.val sc k ρ s' z) λη η η=>.pb _ _) h2
   |none=>exact .o1 λη=>.two (λη η η η r r2=>.o1 λη=>.iB (.b1 (h.val sc k ρ s z) λη η s'=>.b1 (r.val sc k ρ s' z) λη η η=>.b2 (.pb _ _) λη s'=>.eB (.b1 (r2.val sc k ρ s' z) λη η η=>.pb _ _) (.ret _))) h2}
theorem rS{args:List Expr}{es:List (Ev (XS w))}{es':List (Ev Sg)}(h:Mg es es'):Rf (evS X args es) (evS (rl w) args es'):=λsc k ρ s z=>
 .o1 λη=>.two (λη η η η r η=>.iB (.b1 (r.val sc k ρ s z) λη η η=>.pv _ _)) h
theorem rR{f:Expr}{ks:List Keyword}{r:Pos}{es:List (Ev (XS w))}{es':List (Ev Sg)}(h:Mg es es'){v:Ev (XS w)}{v':Ev Sg}(hv:RE v v'):RE (evR X f es ks r v) (evR (rl w) f es' ks r v'):=by
 unfold evR
 cases cX f ks with
 |none=>exact hv
 |some x=>induction h with
  |nil=>exact hv
  |cons h t=>induction t with
   |nil=>exact{hv with itr:=λsc k ρ s z=>.iB (.b1 (h.val sc k ρ s z) λη η η=>.pl _ _)}
   |cons=>exact hv
theorem REo.hs{o:V}{lo hi:Option Int}{p:Pos}{a:Option (Ev (XS w))}{b:Option (Ev Sg)}:REo a b→Rf (evH X a o lo hi p) (evH (rl w) b o lo hi p)
 |.none=>λη η η η η=>.pv _ _
 |.some h=>λsc k ρ s z=>.b1 (h.val sc k ρ s z) λη η η=>.pv _ _
theorem rE:∀e:Expr,RE (ev (X (w:=w)) e) (ev (rl w) e):=by
 refine Uz (L:=λes=>Mg (M1 (X (w:=w)) es) (M1 (rl w) es)) (O:=λe=>REo (evo (X (w:=w)) e) (evo (rl w) e)) (C:=λgs=>RC (Ry (X (w:=w)) gs) (Ry (rl w) gs))
  (λc k p=>.evV p λη η η η η=>.o1 λη=>.ret _) (λx p=>?_) (λop vs p h=>?_) (λl op r p h h2=>.evV p λsc k ρ s z=>.b1 (h.val sc k ρ s z) λη η s'=>.b1 (h2.val sc k ρ s' z) λη η η=>.pv _ _)
  (λop x p h=>?_) (λt a b p h h2 h3=>?_) (λl ops cs p h h2=>rK p h h2) (λe a p h=>?_) (λe i p h h2=>.evV p λsc k ρ s z=>.b1 (h.val sc k ρ s z) λη η s'=>h2.idx _ _ sc k ρ s' z)
  (λlo hi st p h h2 h3=>?_) (λes k p h=>.evV p λsc k ρ s z=>.b2 (h.ls sc k ρ s z) λη η=>.pv _ _) (λes p h=>.evV p λsc k ρ s z=>.b2 (h.ls sc k ρ s z) λη η=>.pv _ _)
  (λks vs p h=>.evV p λsc k ρ s z=>.b2 (h.mx ks sc k ρ s z) λη η=>.o1 λη=>.ret _) (λelt gs cs p h h2=>.evV p λsc k ρ s z=>?_) (λf args ks r h h2=>rR h2 (.evV r ?_)) (λe h=>by rw[Rx h,Rx h];exact .evN)
  .nil (λη η h h2=>.cons h h2) .none (λη h=>.some h) RC.none (λt it ifs k gs h h2=>?_)
 ·exact .c (.evV p λsc k ρ s z=>.o1 λq=>match q with
    |.globalImplicit=>.o1 λη=>.ret _
    |.globalExplicit=>.no
    |.local=>.ol (z.at' x) λη=>.ret _
    |.cell=>.ol (z.at' x) λη=>.ret _
    |.free=>.ol (z.at' x) λη=>.ret _) λη η η η η r h h2 sc k ρ s z=>.iB (.eB (h2 sc k ρ s z) (.b2 (h sc k ρ s z) λη η=>.callV _ _ _))
 ·exact .t (.evV p (h.bs op p)) (h.tsts op)
 ·match op with
  |.Not=>
   refine .t (.evV p λsc k ρ s z=>?_) λsc k ρ s z=>.b2 (h.tst sc k ρ s z) λη η=>.ret _
   exact .b1 (h.val sc k ρ s z) λη η η=>.pv _ _
  |.USub=>exact .evV p λsc k ρ s z=>.b1 (h.val sc k ρ s z) λη η η=>.pv _ _
  |.UAdd=>exact .evN
  |.Invert=>exact .evN
 ·exact .t (.evV p λsc k ρ s z=>.b2 (h.tst sc k ρ s z) λη s'=>.eB (h2.val sc k ρ s' z) (h3.val sc k ρ s' z)) λsc k ρ s z=>.b2 (h.tst sc k ρ s z) λη s'=>.eB (h2.tst sc k ρ s' z) (h3.tst sc k ρ s' z)
 ·refine .c (.evV p λsc k ρ s z=>.iB (?_)) λη η η η η r h2 η sc k ρ s z=>.iB (.b1 (h.val sc k ρ s z) λη η s'=>.o1 λη=>.b2 (h2 sc k ρ s' z) λη η=>.callM _ _ _ _)
  exact .b1 (h.val sc k ρ s z) λη η η=>.pv _ _
 ·refine{RE.evN (w:=w)with idx:=λo p sc k ρ s z=>.b2 (h.os sc k ρ s z) λη s'=>.b2 (h2.os sc k ρ s' z) λη s'=>?_}
  exact h3.hs sc k ρ s' z
 ·refine .ask (λa x σ h e=>by cases a<;>cases e;exact h ρ z) ?_
  rw[show Eh ρ=Eh k by unfold Eh;rw[z.dot]]
  generalize Ry (X (w:=w)) gs=a at h2
  generalize Ry (rl w) gs=b at h2
  induction h2 with
  |none=>exact .no
  |some i t=>exact .iB (.b2 (i.itr sc k ρ s z) λη s'=>.b2 (.fold (λy s=>.b2 (t.as cs _ _ s (z.cons _ _)) λη s'=>.eB (.b1 (h.val cs _ _ s' (z.cons _ _)) λη η η=>.o1 λη=>.ret _) (.ret _)) _ s') λη η=>.ret _)
 ·match ks with
  |_::_=>exactλη η η η η=>.no
  |[]=>exact h.cll _ _ _ _ _ r h2.ls (rS h2)
 ·show RC (o1 (O9 t k gs) _) (o1 (O9 t k gs) _)
  match O9 t k gs with
  |none=>exact .none
  |some _=>exact .some h h2
end
end
section
open PySem
section
variable{w:Wc}{s:XS w}{ρ l:A1}{sc:Scope}
theorem vE(e:Expr)(z:Bn ρ l)(s:XS w):Rl s (J7 X e sc l s) (J7 (rl w) e sc ρ s.σ):=(rE e).val _ _ _ _ z
theorem rEs(es:List Expr):Mg (M1 (X (w:=w)) es) (M1 (rl w) es):=by
 induction es with
 |nil=>exact .nil
 |cons e es ih=>exact .cons (rE e) ih
theorem Rs.mo{α:Type}{m:Option α}{f:α→Option (Fl×A1×XS w)}{g:α→Option (Fl×A1×Sg)}(h:∀x,Rs s (f x) (g x)):Rs s (match m with|some x=>f x|none=>none) (match m with|some x=>g x|none=>none):=match m with
 |none=>.no
 |some x=>h x
theorem wI(o:V)(a:Str)(v:V)(z:Bn ρ l):Rs s (Wz X o a v l s) (Wz (rl w) o a v ρ s.σ):=by
 cases o with
 |d x=>exact .no
 |o k=>
  show Rs s (match s.σ[k]? with|some (.inst c fs)=>_|_=>none) (match s.σ[k]? with|some (.inst c fs)=>_|_=>none)
  generalize s.σ[k]?=q
  rcases q with _|⟨c,fs⟩|_|_|_<;>first|exact .no|exact .iB (.set z _ _)
theorem B57(x:Str)(e:Expr)(z:Bn ρ l):Rs s (Pb X x e sc l s) (Pb (rl w) x e sc ρ s.σ):=
 .b1 (vE e (z.frzE e) s) λη η η=>.o1 λη η=>.ret ((z.frzE e).up _ _) _
theorem B56(x:Str)(e:Expr)(z:Bn ρ l):Rs s (eW X x e sc l s) (eW (rl w) x e sc ρ s.σ):=by
 refine .iB ?_
 have g:=B57 (s:=s) (sc:=sc) x e z
 cases xw e with
 |dct ks vs=>exact .eB (.b2 ((rEs vs).mx ks sc _ _ s (z.frz vs)) λη η=>.set ((z.frz vs).up _ _) _ _) g
 |call f args ks r=>
  dsimp only
  cases d4 f args ks with
  |none=>exact g
  |some y=>exact .iB (.ol (z.own _) λη=>.o1 λη η=>.ret ((z.up _ _).up _ _) _)
 |_=>exact g
theorem B54(o:Expr)(a:Str)(e:Expr)(z:Bn ρ l):Rs s (vD X o a e sc l s) (vD (rl w) o a e sc ρ s.σ):=
 .b1 (vE e z s) λη η s'=>.o1 λη η=>.b1 (vE o z s') λη η η=>wI _ _ _ z
theorem B58(o:Expr)(a:Str)(e:Expr)(z:Bn ρ l):Rs s (eX X o a e sc l s) (eX (rl w) o a e sc ρ s.σ):=
 .eB (.b1 (vE e z s) λη η s'=>.o1 λη η=>.b1 (vE o z {s' with σ:=_}) λη η η=>wI _ _ _ z) (B54 (s:=s) (sc:=sc) o a e z)
theorem B52(y:Str)(i e:Expr)(p:Pos)(z:Bn ρ l):Rs s (gX X y i e p sc l s) (gX (rl w) y i e p sc ρ s.σ):=
 .b1 (vE e z s) λv k s'=>.iB (.ol (z.at' y) λsv=>.b1 (vE i z s') λiv η s=>by
  obtain⟨sk,v0⟩:=sv
  rcases sk with _|_|_
  ·rcases v0 with _|n
   ·exact .no
   ·rcases iv with i|_
    ·cases i with
     |str t=>
      refine .o1 λη η=>?_
      show Rs s (match s.σ[n]? with|some (.tab es)=>_|_=>none) (match s.σ[n]? with|some (.tab es)=>_|_=>none)
      generalize s.σ[n]?=q
      rcases q with _|_|_|_|_<;>first|exact .no|exact .b2 (.pb _ _) λη η=>.iB (.set z _ _)
     |_=>exact .no
    ·exact .no
  ·rcases v0 with x|_
   ·cases x with
    |dict kvs=>
     rcases iv with i|_
     ·exact .o1 λη η=>.b2 (.pb _ _) λη η=>.iB (.ret (z.up _ _) _)
     ·exact .no
    |_=>exact .no
   ·exact .no
  ·exact .no)
theorem B53(b i e:Expr)(p:Pos)(z:Bn ρ l):Rs s (gY X b i e p sc l s) (gY (rl w) b i e p sc ρ s.σ):=
 .b1 (vE e z s) λv k s'=>.b1 (vE b z s') λv0 η s'=>.b1 (vE i z s') λiv η s=>by
  rcases v0 with _|n
  ·exact .no
  ·rcases iv with i|_
   ·refine .o1 λη η=>?_
    show Rs s (match s.σ[n]? with|some (.dct es)=>_|_=>none) (match s.σ[n]? with|some (.dct es)=>_|_=>none)
    generalize s.σ[n]?=q
    rcases q with _|_|_|_|_<;>first|exact .no|exact .b2 (.pb _ _) λη η=>.iB (.set z _ _)
   ·exact .no
theorem Bn.binds(es:List Expr):∀(xs:List PyData){ρ l:A1},Bn ρ l→∀l',D6 es xs l=some l'→∃ρ',D6 es xs ρ=some ρ'∧Bn ρ' l':=by
 induction es with
 |nil=>
  intro xs ρ l h l' e
  cases xs with
  |nil=>cases e;exact⟨_,rfl,h⟩
  |cons=>exact Ao e
 |cons e es ih=>
  intro xs ρ l h l'
  cases xs with
  |nil=>exactλz=>Ao z
  |cons x xs=>
   show(o1 (C2 e) λy=>D6 es xs (Mine.up y (.val,.d x) l))=some l'→∃ρ',(o1 (C2 e) λy=>D6 es xs (Mine.up y (.val,.d x) ρ))=some ρ'∧_
   cases C2 e with
   |none=>exactλz=>Ao z
   |some y=>exact ih xs (h.up _ _) l'
theorem Bn.bind(e:Expr)(x:PyData)(h:Bn ρ l):∀l',Fa e x l=some l'→∃ρ',Fa e x ρ=some ρ'∧Bn ρ' l':=by
 unfold Fa
 cases xw e with
 |name y=>exactλl' e=>by cases e;exact⟨_,rfl,h.up _ _⟩
 |tup es=>cases Zl x with
  |none=>exactλη e=>Ao e
  |some xs=>exact h.binds es xs
 |_=>exactλη e=>Ao e
theorem Rs.bd{a b:Option A1}{f:A1→Option (Fl×A1×XS w)}{g:A1→Option (Fl×A1×Sg)}(h:∀l',a=some l'→∃ρ',b=some ρ'∧Bn ρ' l')(k:∀l ρ,Bn ρ l→Rs s (f l) (g ρ)):Rs s (Mine.o1 a f) (Mine.o1 b g):=match a,h with
 |none,_=>.no
 |some v,h=>let⟨_,e,z⟩:=h v rfl;by rw[e];exact k _ _ z
theorem B55(ts:List Expr)(e:Expr)(z:Bn ρ l):Rs s (eV X ts e sc l s) (eV (rl w) ts e sc ρ s.σ):=
 .iB (.b1 (vE e z s) λη η η=>.o1 λη η=>.bd (z.binds _ _) λη η z=>.ret z _)
theorem C65(t e:Expr)(p:Pos)(z:Bn ρ l):Rs s (exA X t e p sc l s) (exA (rl w) t e p sc ρ s.σ):=by
 unfold exA
 cases xw t with
 |name x=>exact B56 _ _ z
 |attr=>exact B58 _ _ _ z
 |sub b i=>
  dsimp only
  unfold o4
  cases xw b with
  |name=>exact B52 _ _ _ _ z
  |attr=>exact B53 _ _ _ _ z
  |_=>exact .no
 |tup=>exact B55 _ _ z
 |_=>exact .no
theorem zA(e:Expr)(z:Bn ρ l):Rs s (exV X e sc l s) (exV (rl w) e sc ρ s.σ):=.b1 (vE e z s) λη η η=>.iB (.ret z _)
theorem C63(e:Expr)(y m:Str)(q r:Pos)(args:List Expr)(z:Bn ρ l):Rs s (xG X e y m q r args sc l s) (xG (rl w) e y m q r args sc ρ s.σ):=by
 unfold xG
 cases Et sc y with
 |false=>exact zA e z
 |true=>
  refine .ol (z.at' y) λsv=>?_
  obtain⟨sk,v⟩:=sv
  rcases sk with _|_|_
  ·exact zA e z
  ·exact .iB (.b2 ((rEs args).ls _ _ _ _ z) λη η=>.b1 (.pv _ _) λη η η=>.ret (z.up _ _) _)
  ·exact zA e z
theorem C64(e f:Expr)(args:List Expr)(r:Pos)(z:Bn ρ l):Rs s (exE X e f args r sc l s) (exE (rl w) e f args r sc ρ s.σ):=by
 unfold exE
 cases xw f with
 |name f=>exact .o1 λη η=>.o1 λη η=>.iB (.ol (z.own _) λη=>.b2 (.io _ _) λη η=>.ret (z.up _ _) _)
 |attr o m q=>
  dsimp only
  cases xw o with
  |name=>exact C63 _ _ _ _ _ _ z
  |attr=>
   refine .b1 (vE o z s) λv η s'=>?_
   rcases v with _|n
   ·exact .no
   ·refine .iB (.b2 ((rEs args).ls _ _ _ _ z) λη s=>.o1 λη η=>?_)
    show Rs s (match s.σ[n]? with|some (.lst es)=>_|_=>none) (match s.σ[n]? with|some (.lst es)=>_|_=>none)
    generalize s.σ[n]?=q
    rcases q with _|_|_|_|_<;>first|exact .no|exact .b2 (.pb _ _) λη η=>.iB (.set z _ _)
  |_=>exact .no
 |_=>exact .no
theorem C61(e:Option Expr)(z:Bn ρ l):Rs s (z8 X e sc l s) (z8 (rl w) e sc ρ s.σ):=match e with
 |none=>.ret z _
 |some e=>.b1 (vE e (z.frzE e) s) λv k η=>match k with
  |.al x=>.ol (z.own x) λη=>.ret z _
  |.cl=>.ret (z.frzE e) _
  |.fr=>.ret (z.frzE e) _
section
variable{f:PyData→A1→XS w→Option (Fl×A1×XS w)}{g:PyData→A1→Sg→Option (Fl×A1×Sg)}(h:∀x l ρ s,Bn ρ l→Rs s (f x l s) (g x ρ s.σ))
include h
theorem X9:∀xs{l ρ:A1}{s:XS w},Bn ρ l→Rs s (Ir f xs l s) (Ir g xs ρ s.σ)
 |[],_,_,_,z=>.ret z _
 |x::xs,l,ρ,s,z=>.sq (h x l ρ s z) λv l ρ s z=>match v with
  |.ret _=>.ret z _
  |.nx=>X9 xs z
  |.cont=>X9 xs z
theorem X8(k:Nat):∀n i{l ρ:A1}{s:XS w},Bn ρ l→Rs s (Nn X f k n i l s) (Nn (rl w) g k n i ρ s.σ)
 |0,_,_,_,_,_=>.no
 |n+1,i,l,ρ,s,z=>.o1 λx η=>match x with
  |none=>.ret z _
  |some x=>.sq (h x l ρ s z) λv l ρ s z=>match v with
   |.ret _=>.ret z _
   |.nx=>X8 k n (i+1) z
   |.cont=>X8 k n (i+1) z
end
theorem X7{t:A1→XS w→Option (Bool×XS w)}{t':A1→Sg→Option (Bool×Sg)}{f:A1→XS w→Option (Fl×A1×XS w)}{g:A1→Sg→Option (Fl×A1×Sg)}(ht:∀l ρ s,Bn ρ l→Rl s (t l s) (t' ρ s.σ))(h:∀l ρ s,Bn ρ l→Rs s (f l s) (g ρ s.σ)):
  ∀n{l ρ:A1}{s:XS w},Bn ρ l→Rs s (Uf t f n l s) (Uf t' g n ρ s.σ)
 |0,_,_,_,_=>.no
 |n+1,l,ρ,s,z=>.b2 (ht l ρ s z) λb s=>.eB (.sq (h l ρ s z) λv l ρ s z=>match v with
  |.ret _=>.ret z _
  |.nx=>X7 ht h n z
  |.cont=>X7 ht h n z) (.ret z _)
theorem wJ(it:Expr)(z:Bn ρ l):Rs s (Oa X it sc l s) (Oa (rl w) it sc ρ s.σ):=by
 unfold Oa
 cases aX it with
 |some q=>exact .iB (.b1 (vE q.2.1 z s) λη η η=>.b2 (.pl _ _) λη η=>.ret z _)
 |none=>exact .b1 (vE it z s) λv k s'=>.ret (z.frzK k) _
theorem C62(t it:Expr){f:A1→XS w→Option (Fl×A1×XS w)}{g:A1→Sg→Option (Fl×A1×Sg)}(h:∀l ρ s,Bn ρ l→Rs s (f l s) (g ρ s.σ))(z:Bn ρ l):Rs s (A63 X t it f sc l s) (A63 (rl w) t it g sc ρ s.σ):=by
 have b:∀x l ρ s,Bn ρ l→Rs s (o1 (Fa t x l) λρ=>f ρ s) (o1 (Fa t x ρ) λρ=>g ρ s.σ):=λx l ρ s z=>.bd (z.bind t x) λl ρ z=>h l ρ s z
 refine .iB (.sq (wJ it z) λv l ρ s z=>?_)
 cases v with
 |o n=>exact X8 (f:=λx ρ s=>Mine.o1 (Fa t x ρ) λρ=>f ρ s) (g:=λx ρ s=>Mine.o1 (Fa t x ρ) λρ=>g ρ s) b n 100 0 z
 |d x=>exact .o1 λη η=>X9 (f:=λx ρ s=>Mine.o1 (Fa t x ρ) λρ=>f ρ s) (g:=λx ρ s=>Mine.o1 (Fa t x ρ) λρ=>g ρ s) b _ z
theorem Rs.hs{st:Stmt}{a:Option (Fl×A1×XS w)}(z:Bn ρ l)(h:Rs s a (P9 (rl w) st sc ρ s.σ)):Rs s (X.hs st sc l s a) (P9 (rl w) st sc ρ s.σ):=by
 show Rs _ (match P4 (isK st.pos.line) As.ps s.an with|none=>a|some (z,q',an)=>some (z.1.1,z.1.2,⟨z.2,an,(.s st sc l s.σ,q')::s.lg⟩)) _
 cases e:P4 (isK st.pos.line) As.ps s.an with
 |none=>exact h
 |some y=>
  have⟨⟨⟨f,l'⟩,σ'⟩,q',an⟩:=y
  obtain⟨b,h1,h2⟩:=Zr e
  intro f' l'' s' e' o
  cases e'
  obtain⟨o1,o2⟩:=Zx o
  cases b<;>cases h2
  cases(show Qy.s st sc l s.σ=q' from o2)
  exact⟨o1,h1 ρ z⟩
mutual
theorem rXS:∀(st:Stmt){sc:Scope}{l ρ:A1}{s:XS w},Bn ρ l→Rs s (P9 X st sc l s) (P9 (rl w) st sc ρ s.σ)
 |.Pass _,_,_,_,_,z=>.ret z _
 |.Continue _,_,_,_,_,z=>.ret z _
 |.Return e _,_,_,_,_,z=>C61 e z
 |.If t b e _,sc,l,ρ,s,z=>.b2 ((rE t).tst sc l ρ s z) λη s=>.eB (fE b z) (fE e z)
 |.Assign ts e p,_,_,_,_,z=>.o1 λη η=>C65 _ _ _ z
 |.Expr e _,_,_,_,_,z=>by
  show Rs _ (exX X e _ _ _) (exX (rl w) e _ _ _)
  unfold exX
  cases xw e<;>first|exact .no|exact .iB (C64 _ _ _ _ z)
 |.For t it body els _,_,_,_,_,z=>.iB (C62 t it (λη η η z=>fE body z) z)
 |.While t body els p,_,_,_,_,z=>.iB (.o1 λx η=>.iB (X7 (λη η η z=>.ol (z.own x) λη=>.pb _ _) (λη η η z=>fE body z) _ z))
 |.FunctionDef ..,_,_,_,_,_|.AsyncFunctionDef ..,_,_,_,_,_|.ClassDef ..,_,_,_,_,_|.Delete ..,_,_,_,_,_|.TypeAlias ..,_,_,_,_,_|.AugAssign ..,_,_,_,_,_|.AnnAssign ..,_,_,_,_,_
 |.AsyncFor ..,_,_,_,_,_|.With ..,_,_,_,_,_|.AsyncWith ..,_,_,_,_,_|.Match ..,_,_,_,_,_|.Raise ..,_,_,_,_,_|.Try ..,_,_,_,_,_|.TryStar ..,_,_,_,_,_|.Assert ..,_,_,_,_,_|.Import ..,_,_,_,_,_|.ImportFrom ..,_,_,_,_,_
 |.Global ..,_,_,_,_,_|.Nonlocal ..,_,_,_,_,_|.Break ..,_,_,_,_,_=>.no
theorem fE:∀(b:List Stmt){sc:Scope}{l ρ:A1}{s:XS w},Bn ρ l→Rs s (Dn X b sc l s) (Dn (rl w) b sc ρ s.σ)
 |[],_,_,_,_,z=>.ret z _
 |st::b,_,_,_,_,z=>.sq (.hs z (rXS st z)) λv l ρ s z=>match v with
  |.ret _=>.ret z _
  |.nx=>fE b z
  |.cont=>.ret z _
end
noncomputable def Mc{α:Type}:Option (α×XS w)→Option (α×Sg×List Qy)
 |none=>none
 |some (x,s)=>some (x,s.σ,s.lg.map (·.1))
noncomputable def Hc{α:Type}(r:Option (α×XS w))(x:α)(σ:Sg):Option (α×Sg×List Qy):=some (x,σ,match r with
 |none=>[]
 |some (_,s)=>s.lg.map (·.2))
noncomputable def U2{α:Type}:Option (α×A1×XS w)→Option (α×A1×Sg×List Qy)
 |none=>none
 |some (x,l,s)=>some (x,l,s.σ,s.lg.map (·.1))
noncomputable def Lj{α:Type}(r:Option (α×A1×XS w))(x:α)(l:A1)(σ:Sg):Option (α×A1×Sg×List Qy):=some (x,l,σ,match r with
 |none=>[]
 |some (_,_,s)=>s.lg.map (·.2))
theorem kF:∀{lg:List (Qy×Qy)},lg.map (·.1)=lg.map (·.2)→∀p∈lg,p.1=p.2
 |[],_,_,h=>absurd h List.not_mem_nil
 |_::_,e,p,h=>(Mw h).elim (λq=>q▸(List.cons.inj e).1) (kF (List.cons.inj e).2 p)
theorem Rl.end{α:Type}{r:Option (α×XS w)}{b:Option (α×Sg)}{x:α}{σ':Sg}(k:Rl s r b)(h:Mc r=Hc r x σ'):b=some (x,σ'):=by
 cases r with
 |none=>exact Ao h
 |some y=>
  obtain⟨y,s'⟩:=y
  have h:=Cd h
  cases(Prod.mk.inj h).1
  have e:=Prod.mk.inj (Prod.mk.inj h).2
  exact(k _ _ rfl (kF e.2)).2.trans (by rw[show s'.σ=σ' from e.1])
theorem Rs.end{α:Type}{r:Option (α×A1×XS w)}{b:Option (α×A1×Sg)}{x:α}{l':A1}{σ':Sg}(k:Rs s r b)(h:U2 r=Lj r x l' σ'):∃ρ',b=some (x,ρ',σ')∧Bn ρ' l':=by
 cases r with
 |none=>exact Ao h
 |some y=>
  obtain⟨y,m,s'⟩:=y
  have h:=Cd h
  cases(Prod.mk.inj h).1
  have e:=Prod.mk.inj (Prod.mk.inj h).2
  have e2:=Prod.mk.inj e.2
  have⟨_,ρ',q,z⟩:=k _ _ _ rfl (kF e2.2)
  exact⟨ρ',q.trans (by rw[show s'.σ=σ' from e2.1]),(show m=l' from e.1)▸z⟩
theorem Rl.sq{α β:Type}{a:Option (β×A1×XS w)}{b:Option (β×A1×Sg)}{f:β→A1×XS w→Option (α×XS w)}{g:β→A1×Sg→Option (α×Sg)}(h:Rs s a b)(k:∀v l ρ s',Bn ρ l→Rl s' (f v (l,s')) (g v (ρ,s'.σ))):Rl s (Mine.b2 a f) (Mine.b2 b g):=λx s' e o=>
 match a,h,e with
 |some (v,l,s1),h,e=>
  let⟨o2,ρ,e2,h2⟩:=h v l s1 rfl (k v l l s1 .self x s' e o).1
  ⟨o2,e2▸(k v l ρ s1 h2 x s' e o).2⟩
theorem xF{k:Nat}(as:List (Aw (cx k))){f:Str}{rs:List RV}{σ σ':Sg}{r:RV}(h:Mc (Iw X f rs ⟨σ,as,[]⟩)=Hc (Iw X f rs ⟨σ,as,[]⟩) r σ':=by kernel_rfl):(cx (k+1)).call f rs σ=some (r,σ'):=
 (.o1 λfd=>.o1 λρ=>.sq (fE fd.body .self) λη η η η η=>.o1 λη=>.ret _:Rl (w:=cx k) ⟨σ,as,[]⟩ (Iw X f rs ⟨σ,as,[]⟩) (Iw (rl (cx k)) f rs σ)).end h
theorem xI{k:Nat}(as:List (Aw (cx k))){f:Str}{v:V}{σ σ':Sg}{r:V}(h:Mc (X0 X f v ⟨σ,as,[]⟩)=Hc (X0 X f v ⟨σ,as,[]⟩) r σ':=by kernel_rfl):(cx (k+1)).io f v σ=some (r,σ'):=by
 have:∀fd,Rl (w:=cx k) ⟨σ,as,[]⟩ (Te X fd v ⟨σ,as,[]⟩) (Te (rl (cx k)) fd v σ):=by
  intro fd
  obtain⟨ps,d,b,sc⟩:=fd
  match ps with
  |[]=>exact .no
  |_::_::_=>exact .no
  |[p]=>exact .iB (.sq (fE b .self) λf l ρ s z=>match f with
   |.nx=>.ol (z.own p) λη=>.ret _
   |.cont=>.no
   |.ret _=>.no)
 exact(.o1 λfd=>this fd:Rl (w:=cx k) ⟨σ,as,[]⟩ (X0 X f v ⟨σ,as,[]⟩) (X0 (rl (cx k)) f v σ)).end h
end
section
variable{w:Wc}
noncomputable def Aw.v(at_:Nat){t:Option RV}{r:RV}(h:t=some r):Aw w:=⟨at_,.v t,.v r,h⟩
noncomputable def Aw.b(at_:Nat){t:Option Bool}{r:Bool}(h:t=some r):Aw w:=⟨at_,.b t,.b r,h⟩
noncomputable def Aw.d(at_:Nat)(i:Nat){t:Option Bool}(h:t=some (w.env i)):Aw w:=⟨at_,.b t,.bi i,h⟩
noncomputable def Aw.g(at_:Nat)(i:Nat){b:Bool}(h:b=w.env i):Aw w:=⟨at_,.b (some b),.bi i,congrArg some h⟩
noncomputable def Aw.t(at_:Nat){b c:Bool}(h:b=c):Aw w:=⟨at_,.b (some b),.b c,congrArg some h⟩
noncomputable def Aw.l(at_:Nat){t:Option (List PyData)}{r:List PyData}(h:t=some r):Aw w:=⟨at_,.l t,.l r,h⟩
noncomputable def Aw.c{f:Str}{rs:List RV}{σ σ':Sg}{r:RV}(h:w.call f rs σ=some (r,σ')):Aw w:=⟨0,.c f rs σ,.c r σ',h⟩
noncomputable def Aw.cw{en:Nat→Bool}{f:Str}{rs:List RV}{σ σ':Sg}{r:RV}(h:w.call f rs σ=some (r,σ')):Aw (wE w en):=⟨0,.c f rs σ,.c r σ',h⟩
noncomputable def Aw.i{f:Str}{v r:V}{σ σ':Sg}(h:w.io f v σ=some (r,σ')):Aw w:=⟨0,.i f v σ,.i r σ',h⟩
noncomputable def Aw.s(at_:Nat){st:Stmt}{sc:Scope}{l l':A1}{σ σ':Sg}{f:Fl}(h:∀ρ,Bn ρ l→∃ρ',P9 (rl w) st sc ρ σ=some (f,ρ',σ')∧Bn ρ' l'):Aw w:=⟨at_,.s st sc l σ,.s f l' σ',h⟩
noncomputable def Aw.e(at_:Nat){e:Expr}{sc:Scope}{l:A1}{σ σ':Sg}{r:RV}(h:∀ρ,Bn ρ l→J7 (rl w) e sc ρ σ=some (r,σ')):Aw w:=⟨at_,.e e sc l σ,.c r σ',h⟩
end
inductive Tr where
 |l
 |b(i:Nat)(x y:Tr)
inductive TT(α:Type) where
 |l(a:α)
 |b(x y:TT α)
noncomputable def bs:List Bool→Nat→Bool
 |[],_=>false
 |b::_,0=>b
 |_::l,i+1=>bs l i
noncomputable def upd(e:Nat→Bool)(i:Nat)(b:Bool):Nat→Bool:=λj=>cond (Nat.beq j i) b (e j)
section
variable{α:Type}(f g:(Nat→Bool)→α)
noncomputable def oV:Tr→(Nat→Bool)→TT α
 |.l,e=>.l (f e)
 |.b i x y,e=>.b (oV x (upd e i false)) (oV y (upd e i true))
noncomputable def oW:Tr→(Nat→Bool)→TT α
 |.l,e=>.l (f e)
 |.b i x y,e=>.b (oW x (upd e i false)) (oW y (upd e i true))
noncomputable def Qq(e:Nat→Bool):Tr→TT α→α→α
 |.l,.l a,_=>a
 |.b i x y,.b u v,d=>cond (e i) (Qq e y v d) (Qq e x u d)
 |_,_,d=>d
theorem fS(e:Nat→Bool)(i:Nat):upd e i (e i)=e:=funext λj=>by
 unfold upd
 cases q:Nat.beq j i
 ·rfl
 ·rw[Bu q];rfl
theorem Mm(e:Nat→Bool)(d:α):∀tr:Tr,Qq e tr (oV f tr e) d=f e∧Qq e tr (oW f tr e) d=f e
 |.l=>⟨rfl,rfl⟩
 |.b i x y=>by
  have h:=fS e i
  show cond (e i) (Qq e y (oV f y (upd e i true)) d) (Qq e x (oV f x (upd e i false)) d)=_∧cond (e i) (Qq e y (oW f y (upd e i true)) d) (Qq e x (oW f x (upd e i false)) d)=_
  cases q:e i
  ·rw[q]at h;rw[h];exact Mm e d x
  ·rw[q]at h;rw[h];exact Mm e d y
theorem S8{f g:(Nat→Bool)→α}{tr:Tr}(e:Nat→Bool)(h:oV f tr e=oW g tr e):f e=g e:=
 ((Mm f e (f e) tr).1.symm.trans (congrArg (λt=>Qq e tr t (f e)) h)).trans (Mm g e (f e) tr).2
end
theorem xFt(tr:Tr){k:Nat}{en:Nat→Bool}(as:List (Aw (wE (cx k) en))){f:Str}{rs:List RV}{σ:Sg}{r:(Nat→Bool)→RV}{σ':(Nat→Bool)→Sg}(h:∀e,oV (λe=>Mc (Iw (Xe e) f rs ⟨σ,as,[]⟩)) tr e=oW (λe=>Hc (Iw (Xe e) f rs ⟨σ,as,[]⟩) (r e) (σ' e)) tr e:=by kernel_rfl):(cx (k+1)).call f rs σ=some (r en,σ' en):=
 (.o1 λfd=>.o1 λρ=>.sq (fE fd.body .self) λη η η η η=>.o1 λη=>.ret _:Rl (w:=wE (cx k) en) ⟨σ,as,[]⟩ (Iw X f rs ⟨σ,as,[]⟩) (Iw (rl (cx k)) f rs σ)).end (S8 en (h en))
end
section
open PySem
noncomputable def C81:Expr→List Expr
 |.BoolOp _ vs _=>vs
 |.BinOp l _ r _=>[l,r]
 |.UnaryOp _ x _=>[x]
 |.IfExp t a b _=>[t,a,b]
 |.Compare l _ cs _=>l::cs
 |.Attribute e _ _=>[e]
 |.Subscript e i _=>[e,i]
 |.Tuple es _ _=>es
 |.List es _=>es
 |.Dict _ es _=>es
 |.Call f as _ _=>f::as
 |.ListComp elt _ _ _=>[elt]
 |_=>[]
noncomputable def C84:Expr→Bool
 |.ListComp ..=>true
 |_=>false
noncomputable def xE(k:Nat):Nat→Expr→Option Expr
 |0,_=>none
 |n+1,e=>match C84 e&&Nat.beq (key e.pos) k with
  |true=>some e
  |false=>(C81 e).findSome? (xE k n)
noncomputable def Yr:Stmt→List Expr×List Stmt
 |.Return (some e) _=>([e],[])
 |.Assign _ e _=>([e],[])
 |.Expr e _=>([e],[])
 |.If t b e _=>([t],b++e)
 |.For _ it b _ _=>([it],b)
 |.While _ b _ _=>([],b)
 |_=>([],[])
noncomputable def xB(k:Nat):Nat→Stmt→Option Expr
 |0,_=>none
 |n+1,s=>match(Yr s).1.findSome? (xE k 20)with
  |some e=>some e
  |none=>(Yr s).2.findSome? (xB k n)
noncomputable def xD(k:Nat):Nat→Stmt→Option Stmt
 |0,_=>none
 |n+1,s=>match Nat.beq s.pos.line k with
  |true=>some s
  |false=>(Yr s).2.findSome? (xD k n)
noncomputable def qY:Pos:=⟨0,0,0,0⟩
noncomputable def I2(f:Str):List Stmt:=match fn f with
 |some fd=>fd.body
 |none=>[]
noncomputable def Cg(f:Str):Scope:=match fn f with
 |some fd=>fd.scope
 |none=>{kind:=.function,names:=[],isGenerator:=false,isCoroutine:=false}
noncomputable def lc(f:Str)(k:Nat):Expr:=((I2 f).findSome? (xB k 20)).getD (.Name f qY)
noncomputable def Eb(f:Str)(k:Nat):Stmt:=((I2 f).findSome? (xD k 20)).getD (.Pass qY)
noncomputable def Py:Expr→Expr
 |.ListComp e _ _ _=>e
 |e=>e
noncomputable def Um:Expr→Scope
 |.ListComp _ _ cs _=>cs
 |_=>Cg ""
noncomputable def J2:Expr→List Comprehension
 |.ListComp _ gs _ _=>gs
 |_=>[]
noncomputable def lpT:Stmt→Expr
 |.For t _ _ _ _=>t
 |_=>.Name "" qY
noncomputable def wQ:Stmt→Expr
 |.For _ i _ _ _=>i
 |_=>.Name "" qY
noncomputable def lpB:Stmt→List Stmt
 |.For _ _ b _ _=>b
 |_=>[]
section
variable{w:Wc}{l:A1}{sc:Scope}
noncomputable def cmG{S:Type}(I:If S)(c:Expr)(k:Cm S→Option (List PyData×S)):Option (List PyData×S):=o1 (Ry I (J2 c)) k
noncomputable def gH{S:Type}(I:If S)(c:Expr)(ρ:A1)(it:PyData)(s:S):Option (Option PyData×S):=o1 (Ry I (J2 c)) λg=>turn (ev I (Py c)) g.ifs (Um c) g.x ρ it s
noncomputable def Tn(w:Wc)(c:Expr)(l:A1)(it:PyData)(σ:Sg)(y:Option PyData)(σ':Sg):Prop:=∀ρ,Bn ρ l→gH (rl w) c ρ it σ=some (y,σ')
theorem rG(gs:List Comprehension):RC (Ry (X (w:=w)) gs) (Ry (rl w) gs):=by
 cases gs with
 |nil=>exact .none
 |cons g gs=>
  obtain⟨t,it,ifs,k⟩:=g
  show RC (o1 (O9 t k gs) _) (o1 (O9 t k gs) _)
  match O9 t k gs with
  |none=>exact .none
  |some _=>exact .some (rE it) (rEs ifs)
theorem xT(as:List (Aw w)){c:Expr}{it:PyData}{σ σ':Sg}{y:Option PyData}(h:Mc (gH X c l it ⟨σ,as,[]⟩)=Hc (gH X c l it ⟨σ,as,[]⟩) y σ':=by kernel_rfl):Tn w c l it σ y σ':=by
 intro ρ z
 have:Rl (w:=w) ⟨σ,as,[]⟩ (gH X c l it ⟨σ,as,[]⟩) (gH (rl w) c ρ it σ):=by
  unfold gH
  have g:=rG (w:=w) (J2 c)
  generalize Ry (X (w:=w)) (J2 c)=a at g
  generalize Ry (rl w) (J2 c)=b at g
  induction g with
  |none=>exact .no
  |some i t=>exact .b2 (t.as _ _ _ _ (z.cons _ _)) λη s'=>.eB (.b1 ((rE (Py c)).val _ _ _ s' (z.cons _ _)) λη η η=>.o1 λη=>.ret _) (.ret _)
 exact this.end h
theorem Ze(tr:Tr){en:Nat→Bool}(as:List (Aw (wE w en))){c:Expr}{it:PyData}{σ:Sg}{σ':(Nat→Bool)→Sg}{y:(Nat→Bool)→Option PyData}(h:∀e,oV (λe=>Mc (gH (Xe e) c l it ⟨σ,as,[]⟩)) tr e=oW (λe=>Hc (gH (Xe e) c l it ⟨σ,as,[]⟩) (y e) (σ' e)) tr e:=by kernel_rfl):Tn w c l it σ (y en) (σ' en):=
 xT (w:=wE w en) as (S8 en (h en))
inductive Fo(w:Wc)(c:Expr)(l:A1):List PyData→Sg→List PyData→Sg→Prop
 |nil {σ:Sg}:Fo w c l [] σ [] σ
 |cons {it:PyData} {xs ys:List PyData} {y:Option PyData} {σ σ1 σ2:Sg}:Tn w c l it σ y σ1→Fo w c l xs σ1 ys σ2→Fo w c l (it::xs) σ (match y with|some y=>y::ys|none=>ys) σ2
noncomputable def fF{S:Type}(I:If S)(c:Expr)(sc:Scope)(ρ:A1)(s:S):Option (List PyData×S):=o1 (Ry I (J2 c)) λg=>iB (Kn sc (Um c) g.x&&Eh ρ) (g.it.itr sc ρ s)
theorem xC(as:List (Aw w)){c:Expr}{σ σ0 σ1:Sg}{xs ys:List PyData}(hc:c=.ListComp (Py c) (J2 c) (Um c) c.pos)(h:Mc (fF X c sc l ⟨σ,as,[]⟩)=Hc (fF X c sc l ⟨σ,as,[]⟩) xs σ0)(hf:Fo w c l xs σ0 ys σ1):
  ∀ρ,Bn ρ l→J7 (rl w) c sc ρ σ=some ((.d (.list ys),.fr),σ1):=by
 intro ρ z
 have r:Rl (w:=w) ⟨σ,as,[]⟩ (fF X c sc l ⟨σ,as,[]⟩) (fF (rl w) c sc ρ σ):=by
  unfold fF
  rw[show Eh ρ=Eh l by unfold Eh;rw[z.dot]]
  have g:=rG (w:=w) (J2 c)
  generalize Ry (X (w:=w)) (J2 c)=a at g
  generalize Ry (rl w) (J2 c)=b at g
  induction g with
  |none=>exact .no
  |some i t=>exact .iB (i.itr _ _ _ _ z)
 have e:=r.end h
 have f:∀g,Ry (rl w) (J2 c)=some g→Hz (turn (ev (rl w) (Py c)) g.ifs (Um c) g.x ρ) xs σ0=some (ys,σ1):=by
  intro g hg
  clear e h
  induction hf with
  |nil=>rfl
  |cons t _ ih=>
   have t:=t ρ z
   unfold gH at t
   rw[hg]at t
   show b2 (turn _ _ _ _ _ _ _) _=_
   rw[show turn _ _ _ _ _ _ _=_ from t]
   show b2 (Hz _ _ _) _=_
   rw[ih]
   rfl
 rw[hc]
 show o1 (Ry (rl w) (J2 c)) _=_
 unfold fF at e
 cases hg:Ry (rl w) (J2 c)with
 |none=>rw[hg]at e;exact Ao e
 |some g=>
  rw[hg]at e
  change iB _ _=_ at e
  cases hb:Kn sc (Um c) g.x&&Eh ρ with
  |false=>rw[hb]at e;exact Ao e
  |true=>
   rw[hb]at e
   show iB (Kn sc (Um c) g.x&&Eh ρ) (b2 _ _)=_
   rw[hb]
   rw[show g.it.itr sc ρ σ=_ from e]
   show b2 (Hz _ _ _) _=_
   rw[f g hg]
   rfl
noncomputable def Ce(w:Wc)(f:Str)(key:Nat)(l:A1)(σ:Sg)(ys:List PyData)(σ':Sg):Prop:=∀ρ,Bn ρ l→J7 (rl w) (lc f key) (Cg f) ρ σ=some ((.d (.list ys),.fr),σ')
theorem xK(f:Str)(key:Nat)(as:List (Aw w)){σ σ0 σ1:Sg}{xs ys:List PyData}(hc:lc f key=.ListComp (Py (lc f key)) (J2 (lc f key)) (Um (lc f key)) (lc f key).pos)(h:Mc (fF X (lc f key) (Cg f) l ⟨σ,as,[]⟩)=Hc (fF X (lc f key) (Cg f) l ⟨σ,as,[]⟩) xs σ0)(hf:Fo w (lc f key) l xs σ0 ys σ1):Ce w f key l σ ys σ1:=xC as hc h hf
noncomputable def Aw.k{f:Str}{key:Nat}{l:A1}{σ σ':Sg}{ys:List PyData}(h:Ce w f key l σ ys σ'):Aw w:=⟨key,.e (lc f key) (Cg f) l σ,.c (.d (.list ys),.fr) σ',h⟩
theorem Fo.pure{c:Expr}{σ:Sg}{f:PyData→Option PyData}:∀{xs:List PyData},(∀it∈xs,Tn w c l it σ (f it) σ)→Fo w c l xs σ (xs.filterMap f) σ
 |[],_=>.nil
 |it::xs,h=>by
  have:=Fo.cons (h it (.head _)) (Fo.pure λit hi=>h it (.tail _ hi))
  rw[List.filterMap_cons]
  cases e:f it<;>rw[e]at this<;>exact this
theorem Fo.map{α:Type}{c:Expr}{σ:Sg}{i f:α→PyData}:∀{xs:List α},(∀it∈xs,Tn w c l (i it) σ (some (f it)) σ)→Fo w c l (xs.map i) σ (xs.map f) σ
 |[],_=>.nil
 |it::_,h=>.cons (h it (.head _)) (Fo.map λit hi=>h it (.tail _ hi))
theorem Fo.filt{α:Type}{c:Expr}{σ:Sg}{i f:α→PyData}{p:α→Bool}:∀{xs:List α},(∀it∈xs,Tn w c l (i it) σ (match p it with|true=>some (f it)|false=>none) σ)→Fo w c l (xs.map i) σ ((xs.filter p).map f) σ
 |[],_=>.nil
 |it::xs,h=>by
  have a:=Fo.cons (h it (.head _)) (Fo.filt λit hi=>h it (.tail _ hi))
  rw[List.filter_cons]
  cases e:p it<;>rw[e]at a<;>exact a
theorem Fo.flt{α:Type}{c:Expr}{σ:Sg}{i f:α→PyData}{p:α→Bool}(xs:List α)(h:∀it∈xs,Tn w c l (i it) σ (cond (p it) (some (f it)) none) σ):Fo w c l (xs.map i) σ ((xs.filter p).map f) σ:=Fo.filt λit hi=>(by cases p it<;>rfl:cond (p it) (some (f it)) none=match p it with|true=>some (f it)|false=>none)▸h it hi
structure Mf(l m:A1):Prop where
 dot:lk ".0" l=lk ".0" m
 at':∀x p,lk x l=some p→lk x m=some p
theorem Bn.sub{ρ l m:A1}(h:Bn ρ m)(k:Mf l m):Bn ρ l:=⟨h.dot.trans k.dot.symm,λx p e=>h.at' x p (k.at' x p e)⟩
theorem Mf.nil{m:A1}(h:lk ".0" m=none):Mf [] m:=⟨h.symm,λη η e=>Ao e⟩
theorem Mf.cons{x:Str}{p:SK×V}{l m:A1}(h:lk x m=some p)(k:Mf l m):Mf ((x,p)::l) m:=by
 have e:∀y,y=x→lk y m=some p:=λy e=>e▸h
 refine⟨?_,λy q=>?_⟩
 ·rw[Ck]
  by_cases c:(".0":Str)=x
  ·rw[if_pos c,e _ c]
  ·rw[if_neg c];exact k.dot
 ·rw[Ck]
  by_cases c:y=x
  ·rw[if_pos c,e _ c];exact id
  ·rw[if_neg c];exact k.at' y q
theorem Mf.trans{l m n:A1}(h:Mf l m)(k:Mf m n):Mf l n:=⟨h.dot.trans k.dot,λx p e=>k.at' x p (h.at' x p e)⟩
theorem Mf.refl{l:A1}:Mf l l:=⟨rfl,λη η=>id⟩
theorem Xo{α:Type}(x:Str)(m:List (Str×α)):∀l:List (Str×α),lk x (l++m)=(lk x l).or (lk x m)
 |[]=>rfl
 |(y,v)::l=>by
  rw[List.cons_append,Ck,Ck,Xo x m l]
  by_cases c:x=y
  ·rw[if_pos c,if_pos c];rfl
  ·rw[if_neg c,if_neg c]
theorem Mf.app{l m:A1}(h:lk ".0" m=none):Mf l (l++m):=⟨by rw[Xo,h,Option.or_none],λx p e=>by rw[Xo,e];rfl⟩
noncomputable def nY{S:Type}(I:If S)(st:Stmt)(sc:Scope)(it:PyData)(ρ:A1)(s:S):Option (Fl×A1×S):=o1 (Fa (lpT st) it ρ) λρ=>Dn I (lpB st) sc ρ s
noncomputable def Bd(w:Wc)(st:Stmt)(sc:Scope)(it:PyData)(l:A1)(σ:Sg)(f:Fl)(l':A1)(σ':Sg):Prop:=∀ρ,Bn ρ l→∃ρ',nY (rl w) st sc it ρ σ=some (f,ρ',σ')∧Bn ρ' l'
theorem Je(as:List (Aw w)){st:Stmt}{it:PyData}{σ σ':Sg}{l':A1}{f:Fl}(h:U2 (nY X st sc it l ⟨σ,as,[]⟩)=Lj (nY X st sc it l ⟨σ,as,[]⟩) f l' σ':=by kernel_rfl):Bd w st sc it l σ f l' σ':=
 λρ z=>(Rs.bd (z.bind _ _) λl ρ z=>fE _ z:Rs (w:=w) ⟨σ,as,[]⟩ (nY X st sc it l ⟨σ,as,[]⟩) (nY (rl w) st sc it ρ σ)).end h
theorem Qi(tr:Tr){en:Nat→Bool}(as:List (Aw (wE w en))){st:Stmt}{it:PyData}{σ:Sg}{σ':(Nat→Bool)→Sg}{l':(Nat→Bool)→A1}{f:(Nat→Bool)→Fl}(h:∀e,oV (λe=>U2 (nY (Xe e) st sc it l ⟨σ,as,[]⟩)) tr e=oW (λe=>Lj (nY (Xe e) st sc it l ⟨σ,as,[]⟩) (f e) (l' e) (σ' e)) tr e:=by kernel_rfl):Bd w st sc it l σ (f en) (l' en) (σ' en):=
 Je (w:=wE w en) as (S8 en (h en))
theorem Bd.sub{st:Stmt}{it:PyData}{σ σ':Sg}{l m l' m':A1}{f:Fl}(h:Bd w st sc it l σ f l' σ')(k:Mf l m)(k':Mf m' l'):Bd w st sc it m σ f m' σ':=
 λρ z=>let⟨ρ',e,z'⟩:=h ρ (z.sub k);⟨ρ',e,z'.sub k'⟩
inductive Lp(w:Wc)(st:Stmt)(sc:Scope):List PyData→A1→Sg→Fl→A1→Sg→Prop
 |nil {l m:A1} {σ:Sg}:Mf m l→Lp w st sc [] l σ .nx m σ
 |go {it:PyData} {xs:List PyData} {l l1 m:A1} {σ σ1 σ2:Sg} {f:Fl}:Bd w st sc it l σ .nx l1 σ1→Lp w st sc xs l1 σ1 f m σ2→Lp w st sc (it::xs) l σ f m σ2
 |co {it:PyData} {xs:List PyData} {l l1 m:A1} {σ σ1 σ2:Sg} {f:Fl}:Bd w st sc it l σ .cont l1 σ1→Lp w st sc xs l1 σ1 f m σ2→Lp w st sc (it::xs) l σ f m σ2
 |ret {it:PyData} {xs:List PyData} {l m:A1} {σ σ1:Sg} {v:RV}:Bd w st sc it l σ (.ret v) m σ1→Lp w st sc (it::xs) l σ (.ret v) m σ1
theorem Lp.run{st:Stmt}{xs:List PyData}{σ σ':Sg}{l l':A1}{f:Fl}(h:Lp w st sc xs l σ f l' σ'):∀ρ,Bn ρ l→∃ρ',Ir (nY (rl w) st sc) xs ρ σ=some (f,ρ',σ')∧Bn ρ' l':=by
 induction h with
 |nil k=>exactλρ z=>⟨ρ,rfl,z.sub k⟩
 |go b _ ih=>exactλρ z=>let⟨ρ1,e,z1⟩:=b ρ z;let⟨ρ2,e2,z2⟩:=ih ρ1 z1;⟨ρ2,by show b2 (nY _ _ _ _ _ _) _=_;rw[e];exact e2,z2⟩
 |co b _ ih=>exactλρ z=>let⟨ρ1,e,z1⟩:=b ρ z;let⟨ρ2,e2,z2⟩:=ih ρ1 z1;⟨ρ2,by show b2 (nY _ _ _ _ _ _) _=_;rw[e];exact e2,z2⟩
 |ret b=>exactλρ z=>let⟨ρ1,e,z1⟩:=b ρ z;⟨ρ1,by show b2 (nY _ _ _ _ _ _) _=_;rw[e];rfl,z1⟩
theorem Lp.sub{st:Stmt}{xs:List PyData}{σ σ':Sg}{l m l':A1}{f:Fl}(h:Lp w st sc xs l σ f l' σ')(k:Mf l m):Lp w st sc xs m σ f l' σ':=by
 induction h with
 |nil k'=>exact .nil (k'.trans k)
 |go b t=>exact .go (b.sub k .refl) t
 |co b t=>exact .co (b.sub k .refl) t
 |ret b=>exact .ret (b.sub k .refl)
theorem xL(as:List (Aw w)){st:Stmt}{σ σ0 σ1:Sg}{x:PyData}{xs:List PyData}{l0 l1:A1}{f:Fl}(hs:st=.For (lpT st) (wQ st) (lpB st) [] st.pos)(ht:Ws sc (lpT st)=true)(h:U2 (Oa X (wQ st) sc l ⟨σ,as,[]⟩)=Lj (Oa X (wQ st) sc l ⟨σ,as,[]⟩) (.d x) l0 σ0)(hx:Cx x=some xs)(hl:Lp w st sc xs l0 σ0 f l1 σ1):
  ∀ρ,Bn ρ l→∃ρ',P9 (rl w) st sc ρ σ=some (f,ρ',σ1)∧Bn ρ' l1:=by
 intro ρ z
 obtain⟨ρ0,e,z0⟩:=(wJ (wQ st) z).end h
 obtain⟨ρ1,e1,z1⟩:=hl.run ρ0 z0
 refine⟨ρ1,?_,z1⟩
 rw[hs]
 show iB (Ws sc (lpT st)) (b2 (Oa (rl w) (wQ st) sc ρ σ) _)=_
 rw[ht]
 rw[e]
 show o1 (Cx x) _=_
 exact(hx)▸e1
theorem P3(as:List (Aw w)){st:Stmt}{σ σ0 σ1:Sg}{x:PyData}{xs:List PyData}{l1:A1}{f:Fl}(hs:st=.For (lpT st) (wQ st) (lpB st) [] st.pos)(ht:Ws sc (lpT st)=true)(h:U2 (Oa X (wQ st) sc l ⟨σ,as,[]⟩)=Lj (Oa X (wQ st) sc l ⟨σ,as,[]⟩) (.d x) l σ0)(hx:Cx x=some xs)(hl:Lp w st sc xs l σ0 f l1 σ1):
  ∀ρ,Bn ρ l→∃ρ',P9 (rl w) st sc ρ σ=some (f,ρ',σ1)∧Bn ρ' l1:=xL as hs ht h hx hl
noncomputable def Ls(w:Wc)(f:Str)(n:Nat)(l:A1)(σ:Sg)(fl:Fl)(l':A1)(σ':Sg):Prop:=∀ρ,Bn ρ l→∃ρ',P9 (rl w) (Eb f n) (Cg f) ρ σ=some (fl,ρ',σ')∧Bn ρ' l'
theorem xS(f:Str)(n:Nat)(as:List (Aw w)){σ σ':Sg}{fl:Fl}{l':A1}(h:U2 (P9 X (Eb f n) (Cg f) l ⟨σ,as,[]⟩)=Lj (P9 X (Eb f n) (Cg f) l ⟨σ,as,[]⟩) fl l' σ'):Ls w f n l σ fl l' σ':=λρ z=>(rXS (w:=w) (Eb f n) z).end h
theorem Ls.sub{f:Str}{n:Nat}{σ σ':Sg}{fl:Fl}{m l' m':A1}(h:Ls w f n l σ fl l' σ')(k:Mf l m)(k':Mf m' l'):Ls w f n m σ fl m' σ':=
 λρ z=>let⟨ρ',e,z'⟩:=h ρ (z.sub k);⟨ρ',e,z'.sub k'⟩
noncomputable def Aw.o{f:Str}{n:Nat}{l l':A1}{σ σ':Sg}{fl:Fl}(h:Ls w f n l σ fl l' σ'):Aw w:=⟨n,.s (Eb f n) (Cg f) l σ,.s fl l' σ',h⟩
end
end
section
open PySem
inductive A6{α β:Type}(R:α→β→Prop):List α→List β→Prop
 |nil:A6 R [] []
 |cons {a:α} {b:β} {as:List α} {bs:List β}:R a b→A6 R as bs→A6 R (a::as) (b::bs)
namespace A6
variable{α β γ:Type}{R S:α→β→Prop}
theorem length{as:List α}{bs:List β}(h:A6 R as bs):bs.length=as.length:=by
 induction h with
 |nil=>rfl
 |cons _ _ ih=>simp[ih]
theorem imp{as:List α}{bs:List β}(h:A6 R as bs)(f:∀a b,R a b→S a b):A6 S as bs:=by
 induction h with
 |nil=>exact .nil
 |cons h1 _ ih=>exact .cons (f _ _ h1) ih
theorem C40{as:List α}{bs:List β}(h:A6 R as bs)(f:∀a b,a∈as→b∈bs→R a b→S a b):A6 S as bs:=by
 induction h with
 |nil=>exact .nil
 |cons h1 _ ih=>exact .cons (f _ _ (.head _) (.head _) h1) (ih λa b ha hb=>f a b (.tail _ ha) (.tail _ hb))
theorem append{as as':List α}{bs bs':List β}(h:A6 R as bs)(h':A6 R as' bs'):A6 R (as++as') (bs++bs'):=by
 induction h with
 |nil=>exact h'
 |cons h1 _ ih=>exact .cons h1 ih
theorem one{a:α}{b:β}(h:R a b):A6 R [a] [b]:=.cons h .nil
theorem get{as:List α}{bs:List β}(h:A6 R as bs):∀{i:Nat}{a:α},as[i]?=some a→∃b,bs[i]?=some b∧R a b:=by
 induction h with
 |nil=>intro i a e;simp at e
 |cons h1 _ ih=>
  intro i a e
  cases i with
  |zero=>simp only[List.getElem?_cons_zero,Option.some.injEq]at e;subst e;exact⟨_,rfl,h1⟩
  |succ i=>simp only[List.getElem?_cons_succ]at e⊢;exact ih e
theorem get_r{as:List α}{bs:List β}(h:A6 R as bs):∀{i:Nat}{b:β},bs[i]?=some b→∃a,as[i]?=some a∧R a b:=by
 induction h with
 |nil=>intro i a e;simp at e
 |cons h1 _ ih=>
  intro i a e
  cases i with
  |zero=>simp only[List.getElem?_cons_zero,Option.some.injEq]at e;subst e;exact⟨_,rfl,h1⟩
  |succ i=>simp only[List.getElem?_cons_succ]at e⊢;exact ih e
theorem take{as:List α}{bs:List β}(h:A6 R as bs):∀n,A6 R (as.take n) (bs.take n):=by
 induction h with
 |nil=>intro n;simp;exact .nil
 |cons h1 _ ih=>intro n;cases n with
  |zero=>exact .nil
  |succ n=>exact .cons h1 (ih n)
theorem drop{as:List α}{bs:List β}(h:A6 R as bs):∀n,A6 R (as.drop n) (bs.drop n):=by
 induction h with
 |nil=>intro n;simp;exact .nil
 |cons h1 h2 ih=>intro n;cases n with
  |zero=>exact .cons h1 h2
  |succ n=>exact ih n
theorem reverse{as:List α}{bs:List β}(h:A6 R as bs):A6 R as.reverse bs.reverse:=by
 induction h with
 |nil=>exact .nil
 |cons h1 _ ih=>simp only[List.reverse_cons];exact ih.append (.one h1)
theorem map_l{f:γ→α}{cs:List γ}{bs:List β}(h:A6 (λc b=>R (f c) b) cs bs):A6 R (cs.map f) bs:=by
 induction h with
 |nil=>exact .nil
 |cons h1 _ ih=>exact .cons h1 ih
theorem B61{f:γ→α}{bs:List β}:∀{cs:List γ},A6 R (cs.map f) bs→A6 (λc b=>R (f c) b) cs bs:=by
 intro cs h
 generalize e:cs.map f=as at h
 induction h generalizing cs with
 |nil=>cases cs with
  |nil=>exact .nil
  |cons _ _=>cases e
 |cons h1 _ ih=>cases cs with
  |nil=>cases e
  |cons c cs=>cases e;exact .cons h1 (ih rfl)
theorem D11{as:List α}{bs:List β}(h:A6 R as bs){a:α}(ha:a∈as):∃b∈bs,R a b:=by
 induction h with
 |nil=>cases ha
 |cons h1 _ ih=>
  cases ha with
  |head=>exact⟨_,.head _,h1⟩
  |tail _ q=>obtain⟨b,hb,r⟩:=ih q;exact⟨b,.tail _ hb,r⟩
end A6
theorem A6.one_inv{α β:Type}{R:α→β→Prop}{a:α}{us:List β}(h:A6 R [a] us):∃u,us=[u]∧R a u:=by
 cases h with
 |cons h1 h2=>cases h2;exact⟨_,rfl,h1⟩
theorem A6.two_inv{α β:Type}{R:α→β→Prop}{a b:α}{us:List β}(h:A6 R [a,b] us):∃u w,us=[u,w]∧R a u∧R b w:=by
 cases h with
 |cons h1 h2=>exact h2.one_inv.elim λw q=>⟨_,w,congrArg _ q.1,h1,q.2⟩
theorem Fr{α:Type}{x:Str}{v:α}:∀{l:List (Str×α)},lk x l=some v→(x,v)∈l
 |(y,u)::r,h=>by
  replace h:(match sq x y with|true=>some u|false=>lk x r)=some v:=h
  cases e:sq x y<;>rw[e]at h
  ·exact .tail _ (Fr h)
  ·rw[Bm.mp e,Cd h];exact .head _
theorem i4(x y:Str):(x==y)=sq x y:=Bool.eq_iff_iff.mpr ⟨λh=>Bm.mpr (eq_of_beq h),λh=>beq_iff_eq.mpr (Bm.mp h)⟩
theorem Ac{G:Prop}(k:∀X:Prop,(G→X)→X):G:=k G id
end
section
set_option autoImplicit true
open PySem
noncomputable def He:Int⊕Str→Value→Bool
 |.inl i,v=>Value.isInt i v
 |.inr x,v=>Value.isStrOf x v
theorem Ei(i:Int)(t:Tok):Value.isInt i (.int i t)=true:=decide_eq_true rfl
theorem Cr(x:Str)(t:Tok):Value.isStrOf x (.str x t)=true:=decide_eq_true rfl
theorem B17{i:Int}{v:Value}:Value.isInt i v=true↔∃t,v=.int i t:=
 ⟨Value.isInt_shape,λ⟨t,e⟩=>e▸Ei i t⟩
theorem x4{x:Str}{v:Value}:Value.isStrOf x v=true↔∃t,v=.str x t:=
 ⟨Value.isStrOf_shape,λ⟨t,e⟩=>e▸Cr x t⟩
theorem aI{j:Int}{v:Value}(h:He (.inl j) v=true):∃t,v=.int j t:=Value.isInt_shape h
theorem jN{x:Str}{v:Value}(h:He (.inr x) v=true):∃t,v=.str x t:=Value.isStrOf_shape h
theorem Kp{P:Int⊕Str→Value→Prop}(hi:∀i t,P (.inl i) (.int i t))(hs:∀x t,P (.inr x) (.str x t)){k:Int⊕Str}{v:Value}:He k v=true→P k v:=
 k.casesOn (λi h=>(aI h).elim λt e=>e▸hi i t) λx h=>(jN h).elim λt e=>e▸hs x t
theorem rX{v:Value}{a b:Int⊕Str}(ha:He a v=true):He b v=true→a=b:=
 Kp (P:=λa v=>He b v=true→a=b) (λi t=>b.casesOn (λη h=>(aI h).elim λη e=>congrArg _ (Value.int.inj e).1) λη h=>Bool.noConfusion h)
  (λi t=>b.casesOn (λη h=>Bool.noConfusion h) λη h=>(jN h).elim λη e=>congrArg _ (Value.str.inj e).1) ha
section
variable{prog:Program}{w:World}{A:Around}{E:Value→Shared→Prop}{s:Shared}
theorem zZ{a b:Int⊕Str}{u v:Value}{Q:Bool→Shared→Prop}(ha:He a u=true):He b v=true→Q (decide (a=b)) s→wpAny (model prog w) A (eqBool u v) Q E s:=
 Kp (P:=λa u=>He b v=true→Q (decide (a=b)) s→wpAny (model prog w) A (eqBool u v) Q E s)
  (λi t=>Kp (P:=λb v=>Q (decide (.inl i=b)) s→wpAny (model prog w) A (eqBool (.int i t) v) Q E s)
   (λj t' hq=>(intKind prog w).eqBool (a:=i) (b:=j) (Ei i t) (Ei j t') ((decide_eq_decide.mpr ⟨Sum.inl.inj,congrArg _⟩:decide ((.inl i:Int⊕Str)=.inl j)=decide (i=j))▸hq))
   λy t' hq=>SeqAt.EqAt.int_str i t y t' prog w E Q hq)
  (λx t=>Kp (P:=λb v=>Q (decide (.inr x=b)) s→wpAny (model prog w) A (eqBool (.str x t) v) Q E s)
   (λj t' hq=>SeqAt.EqAt.str_int x t j t' prog w E Q hq)
   λy t' hq=>(strKind prog w).eqBool (a:=x) (b:=y) (Cr x t) (Cr y t') ((decide_eq_decide.mpr ⟨Sum.inr.inj,congrArg _⟩:decide ((.inr x:Int⊕Str)=.inr y)=decide (x=y))▸hq)) ha
noncomputable def A00(prog:Program)(w:World)(k:Int⊕Str):Int:=Sum.casesOn k (intKind prog w).hash (strKind prog w).hash
theorem jO{k:Int⊕Str}{v:Value}{Q:Int→Shared→Prop}:He k v=true→Q (A00 prog w k) {s with toks:=s.toks+1}→wpAny (model prog w) A (pyHash v) Q E s:=
 Kp (P:=λk v=>Q (A00 prog w k) {s with toks:=s.toks+1}→wpAny (model prog w) A (pyHash v) Q E s) (λi t=>(intKind prog w).pyHash (k:=i) (Ei i t)) λi t=>(strKind prog w).pyHash (k:=i) (Cr i t)
end
noncomputable def aJ(prog:Program)(w:World):KeyKind prog w (Int⊕Str) where
 is:=He
 hash:=A00 prog w
 inj:=λη η η ha hb=>rX ha hb
 byValue:=λη η=>Kp (P:=λη v=>carriedByValue v=true) (λη η=>rfl) λη η=>rfl
 pyHash:=jO
 eqBool:=zZ
 «strs»:=λk x t v=>k.casesOn (λη h=>(aI h).elim λη e=>nomatch e) λy h=>(strKind prog w).«strs» y x t v h
end
section
open PySem
theorem iE{h:Heap}{f:PyData→Bool}{P:PyData→Value→Prop}(ih:∀x,f x=true→∀v as,Reads h v x as→P x v)(xs:List PyData):xs.all f=true→∀vs as,ReadsAll h vs xs as→A6 P xs vs:=by
 induction xs with
 |nil=>intro _ vs as r;cases r;exact .nil
 |cons x xs ih2=>
  intro e vs as r
  have e:=Ab e
  cases r with
  |cons r1 r2=>exact .cons (ih x e.1 _ _ r1) (ih2 e.2 _ _ r2)
theorem Qs{h:Heap}{P:Nat→PyData→Value→Prop}(hi:∀n i t,P (n+1) (.int i) (.int i t))(hs:∀n s t,P (n+1) (.str s) (.str s t))
  (ht:∀n xs a o vs m,h.get? a=some o→o.cls=.type "tuple"→o.data=.seq vs m→A6 (P n) xs vs.toList→P (n+1) (.tuple xs) (.ref a)) (n:Nat):∀x,Hr n x=true→∀v as,Reads h v x as→P n x v:=by
 induction n with
 |zero=>exactλη e=>Bool.noConfusion e
 |succ n ih=>
  intro x e v as r
  cases r with
  |int i t=>exact hi n i t
  |str s t=>exact hs n s t
  |tuple h1 h2 h3 r=>exact ht n _ _ _ _ _ h1 h2 h3 (iE ih _ e _ _ r)
  |_=>exact Bool.noConfusion e
theorem cY{h:Heap}{xs:List PyData}{vs:List Value}(al:A6 (λx v=>∃as,Reads h v x as) xs vs):∃as,ReadsAll h vs xs as:=by
 induction al with
 |nil=>exact⟨_,.nil⟩
 |cons h1 _ ih=>exact h1.elim λas r=>ih.elim λbs r2=>⟨_,.cons r r2⟩
theorem Un{f:PyData→Bool}{n:Nat}(hf:∀x,f x=true→x.canLay0=true∧x.depth≤n)(xs:List PyData):xs.all f=true→PyData.canLayAll0 xs=true∧PyData.depthAll xs≤n:=by
 induction xs with
 |nil=>exactλη=>⟨rfl,Nat.zero_le _⟩
 |cons x xs ih=>
  intro h
  have h:=Ab h
  exact⟨Yx ⟨(hf x h.1).1,(ih h.2).1⟩,Nat.max_le.mpr ⟨(hf x h.1).2,(ih h.2).2⟩⟩
set_option tactic.hygienic true in
set_option backward.match.sparseCases true in
theorem Ix(n:Nat):∀x,Hr n x=true→x.canLay0=true∧x.depth≤n:=by
 induction n with
 |zero=>exactλη e=>Bool.noConfusion e
 |succ n ih=>
  intro x
  cases x with
  |int=>exactλη=>⟨rfl,Nat.zero_le _⟩
  |str=>exactλe=>⟨e,Nat.zero_le _⟩
  |tuple xs=>exactλe=>(Un ih xs e).imp id Nat.succ_le_succ
  |_=>exactλe=>Bool.noConfusion e
theorem A78{f:PyData→Bool}(hf:∀x,f x=true→∀y,f y=true→PyData.eqv x y=true→x=y)(xs:List PyData):xs.all f=true→∀ys,ys.all f=true→PyData.eqvAll xs ys=true→xs=ys:=by
 induction xs with
 |nil=>exactλη ys η=>ys.casesOn (λη=>rfl) λη η h=>Bool.noConfusion h
 |cons x xs ih=>
  intro e ys
  cases ys with
  |nil=>exactλη h=>Bool.noConfusion h
  |cons y ys=>
   intro e2 h
   have e:=Ab e
   have e2:=Ab e2
   have h:=Ab h
   exact(congrArg (List.cons · xs) (hf x e.1 y e2.1 h.1)).trans (congrArg _ (ih e.2 ys e2.2 h.2))
theorem B50(n:Nat):∀x,Hr n x=true→∀y,Hr n y=true→PyData.eqv x y=true→x=y:=by
 induction n with
 |zero=>exactλη e=>Bool.noConfusion e
 |succ n ih=>
  intro x e y
  cases x<;>first|exact Bool.noConfusion e|skip
  case int=>cases y<;>first|exactλη h=>congrArg _ (eq_of_beq h)|exactλη h=>Bool.noConfusion h|exactλh=>Bool.noConfusion h
  case str=>cases y<;>first|exactλη h=>congrArg _ (eq_of_beq h)|exactλη h=>Bool.noConfusion h|exactλh=>Bool.noConfusion h
  case tuple=>cases y<;>first|exactλe2 h=>congrArg _ (A78 ih _ e _ e2 h)|exactλη h=>Bool.noConfusion h|exactλh=>Bool.noConfusion h
theorem fD{x:PyData}:D8 x=true→Hr 8 x=true:=by
 cases x<;>first|exact id|exactλh=>Bool.noConfusion h
noncomputable instance rkDec:DecidableEq PyData:=Classical.typeDecidableEq _
noncomputable def Wa(x k:PyData):Prop:=x=k∧D8 k=true
set_option tactic.hygienic true in
set_option backward.match.sparseCases true in
theorem Qu{x y a b:PyData}(h:Wa x a)(h':Wa y b):PyData.eqv x y=decide (a=b):=
 h.1▸h'.1▸Bool.eq_iff_iff.mpr ⟨λe=>decide_eq_true (B50 8 _ (fD (h.1▸h.2)) _ (fD (h'.1▸h'.2)) e),λe=>of_decide_eq_true e▸SeqAt.eqv_refl x (Ix 8 x (fD (h.1▸h.2))).1⟩
end
section
open PySem PySem.W
section
variable{prog:Program}{w:World}{h:Heap}
noncomputable def C57(prog:Program)(w:World)(R:PyData→Int×Nat):PyData→Int×Nat
 |.int i=>((intKind prog w).hash i,1)
 |.str s=>((strKind prog w).hash s,1)
 |.tuple xs=>(reduceHash (Builtin.Tuple.tupleHashOf (xs.map λx=>(R x).1)),(xs.map λx=>(R x).2).sum+1)
 |_=>(0,0)
noncomputable def rkH(prog:Program)(w:World)(n:Nat):PyData→Int×Nat:=Nat.rec (λη=>(0,0)) (λη=>C57 prog w) n
noncomputable def oJ(prog:Program)(w:World)(h:Heap)(n:Nat)(r:Int×Nat)(v:Value):Prop:=∀s:Shared,s.heap=h→∀(A:Around)(Q:Int→Shared→Prop) E,A.units+n<cLine→Q r.1 {s with toks:=s.toks+r.2}→wpAny (model prog w) A (pyHash v) Q E s
theorem dS{n:Nat}{R:PyData→Int×Nat}{xs:List PyData}{vs:List Value}(al:A6 (λx v=>oJ prog w h n (R x) v) xs vs):∀(s:Shared),s.heap=h→∀(A:Around)(b:Array Int)(Q:Array Int→Shared→Prop) E,A.units+n<cLine→
  (∀b':Array Int,b'.toList=b.toList++xs.map (λx=>(R x).1)→Q b' {s with toks:=s.toks+(xs.map λx=>(R x).2).sum})→
  wpAny (model prog w) A (forIn vs b λx r=>do let h ← pyHash x;pure PUnit.unit;pure (ForInStep.yield (r.push h))) Q E s:=by
 induction al with
 |nil=>exactλs η A b Q E η h=>wpAny_pure (h b (List.append_nil _).symm)
 |cons h1 _ ih=>
  intro s hs A b Q E hu h
  rw[List.forIn_cons]
  refine wpAny_bind (wpAny_bind (h1 s hs A _ _ hu (wpAny_pure ?_)))
  refine ih _ ?_ A _ Q E hu λb' e=>?_
  exact hs
  have z:=h b' (e.trans (Array.toList_push▸List.append_assoc ..))
  rwa [List.map_cons,List.sum_cons,← Nat.add_assoc]at z
theorem lN:∀n x,Hr n x=true→∀v as,Reads h v x as→oJ prog w h n (rkH prog w n x) v:=
 Qs (P:=λn x v=>oJ prog w h n (rkH prog w n x) v) (λn i t s η A Q E η q=>(intKind prog w).pyHash (k:=i) (Ei i t) q) (λn i t s η A Q E η q=>(strKind prog w).pyHash (k:=i) (Cr i t) q) λn xs a o vs m h1 h2 h3 al s hs A Q E hu q=>by
  cases hs
  refine pyHash_slot (T:="tuple") ⟨_,h1,h2⟩ F.slot_tuple_hash F.entry_tuple_hash (F.args_tuple_hash_1 _) (beq_builtin_none _) (.inr (Nat.lt_of_le_of_lt (Nat.le_add_right _ _) hu)) ?_
  show wpAny _ _ (Builtin.Tuple.tupleItemsOf (.ref a) >>= _) _ _ s
  refine wpAny_bind (wpAny_tupleItemsOf h1 h3 (wpAny_bind ?_))
  rw[← Array.forIn_toList]
  refine dS al s rfl A.in1 #[] _ _ (by simp only[Around.in1_units,Nat.add_assoc,Nat.add_comm 1];exact hu) λb e=>?_
  show wpAny _ _ (retInt (Builtin.Tuple.tupleHashOf b.toList)) _ _ _
  exact wpAny_bind (wpAny_mkInt (wpAny_pure ⟨_,_,rfl,e▸q⟩))
noncomputable def Z3(prog:Program)(w:World)(h:Heap)(n:Nat)(v:Value):Prop:=∀s:Shared,s.heap=h→∀(A:Around)(Q:Bool→Shared→Prop) E,Q true s→wpAny (model prog w) A (eqIsQuiet n v) Q E s
theorem Xa{n:Nat}{s:Shared}(hs:s.heap=h){A:Around}{Q:Option Bool×PUnit→Shared→Prop}{E:Value→Shared→Prop}(q:Q (none,⟨⟩) s){xs:List PyData}{vs:List Value}(al:A6 (λη v=>Z3 prog w h n v) xs vs):
  wpAny (model prog w) A (forIn vs ((none,⟨⟩):Option Bool×PUnit) λy r=>do
   let q ← eqIsQuiet n y
   if(!q)=true then pure (ForInStep.done (some false,r.2))else do
    pure PUnit.unit
    pure (ForInStep.yield (none,r.2))) Q E s:=by
 induction al with
 |nil=>exact wpAny_pure q
 |cons h1 _ ih=>
  rw[List.forIn_cons]
  exact wpAny_bind (wpAny_bind (h1 s hs A _ _ (wpAny_pure ih)))
theorem d0:∀n x,Hr n x=true→∀v as,Reads h v x as→Z3 prog w h n v:=
 Qs (P:=λn η v=>Z3 prog w h n v) (λn i t s η A Q E q=>eqIsQuiet_byValue (n+1) (v:=.int i t) rfl▸wpAny_pure q) (λn i t s η A Q E q=>eqIsQuiet_byValue (n+1) (v:=.str i t) rfl▸wpAny_pure q) λn xs a o vs m h1 h2 h3 al s hs A Q E q=>by
  cases hs
  have hT:s.TypeIs (.ref a) "tuple":=⟨o,h1,h2⟩
  unfold eqIsQuiet
  refine wpAny_bind (wpAny_specialOf hT F.slot_tuple_eq.lookup ?_)
  show wpAny _ _ (isInstance (.ref a) (.type "tuple") >>= _) _ _ s
  refine wpAny_bind (wpAny_isInstance hT isSubtype_tuple_tuple ?_)
  refine wpAny_bind (wpAny_seqItems h1 h3 (wpAny_bind ?_))
  show wpAny _ _ (forIn vs _ _) _ _ s
  rw[← Array.forIn_toList]
  exact Xa rfl (wpAny_pure q) al
theorem kP{h':Heap}(k:∀a o vs n,o.data=.seq vs n→h.get? a=some o→h'.get? a=some o):∀n x,Hr n x=true→∀v as,Reads h v x as→∃as,Reads h' v x as:=
 Qs (P:=λη x v=>∃as,Reads h' v x as) (λη i t=>⟨_,.int i t⟩) (λη i t=>⟨_,.str i t⟩) λn xs a o vs m h1 h2 h3 al=>(cY al).elim λη r=>⟨_,.tuple (k _ _ _ _ h3 h1) h2 h3 r⟩
theorem z7{a:Addr}{o o':Obj}{vs:Array Value}{n:Nat}{es ep}(h1:h.get? a=some o)(h2:h.get? a=some o')(h3:o.data=.seq vs n)(h4:o'.data=.dict es ep):False:=
 Data.noConfusion (h3.symm.trans ((congrArg Obj.data (Cd (h1.symm.trans h2))).trans h4))
noncomputable def Er(prog:Program)(w:World):HeapKind prog w PyData where
 is:=λh k a=>D8 k=true∧∃as,Reads h (.ref a) k as
 hash:=λk=>(rkH prog w 8 k).1
 draws:=λk=>(rkH prog w 8 k).2
 room:=λA=>A.units+64<cLine
 inj:=λhx hy=>hx.2.elim λη r=>hy.2.elim λη r'=>SeqAt.Reads.unique _ _ _ _ _ (Ix 8 _ (fD hx.1)).1 r r'
 keeps:=λhk ho hd hs=>⟨hk.1,hk.2.elim λη r=>kP (λb ob vs n hv hb=>(hs.2 b λe=>z7 (e▸hb) ho hv hd).trans hb) 8 _ (fD hk.1) _ _ r⟩
 pyHash:=λhu hk hQ=>hk.2.elim λη r=>lN 8 _ (fD hk.1) _ _ r _ rfl _ _ _ (Nat.lt_of_le_of_lt (Nat.add_le_add_left (by decide) _) hu) hQ
 eqBool:=λ{A E s x y a b Q} hu hx hy hQ=>hx.2.elim λη ra=>hy.2.elim λη rb=>
  SeqAt.eqBoolOverData prog w A E s _ _ _ _ _ _ Q ra rb (Ix 8 _ (fD hx.1)).1 (Ix 8 _ (fD hy.1)).1 (Nat.lt_of_le_of_lt (Nat.add_le_add_left (Ag (Nat.min_le_left ..) (Ag (Ix 8 _ (fD hx.1)).2 (by decide))) _) hu) ((Qu ⟨rfl,hx.1⟩ ⟨rfl,hy.1⟩).symm▸hQ)
 quiet:=λhk hQ=>hk.2.elim λη r=>d0 8 _ (fD hk.1) _ _ r _ rfl _ _ _ hQ
end
end
section
set_option autoImplicit true
open PySem

end
section
open PySem PySem.W PySem.Calls
structure Gh where
 n:Nat
 G:Addr→Option PyData
 p:Nat→Addr
 q:Nat→Addr
noncomputable def D9:PyData→Bool
 |.list _=>true
 |.tuple _=>true
 |.dict _=>true
 |_=>false
noncomputable def scal:PyData→Value→Prop
 |.none,u=>u=.none
 |.bool b,u=>u=.bool b
 |.int i,u=>∃t,u=.int i t
 |.str s,u=>∃t,u=.str s t
 |_,_=>False
noncomputable def Mb(b:Bool)(S:Prop)(P:Addr→Prop)(u:Value):Prop:=match b with
 |true=>∃a,u=.ref a∧P a
 |false=>S
theorem Mb.imp{b:Bool}{S:Prop}{P P':Addr→Prop}{u:Value}(f:∀a,P a→P' a)(r:Mb b S P u):Mb b S P' u:=by
 cases b
 ·exact r
 ·exact Exists.imp (λa h=>⟨h.1,f a h.2⟩) r
noncomputable def rel(g:Gh):V→Value→Prop
 |.d x,u=>Mb (D9 x) (scal x u) (λa=>g.G a=some x) u
 |.o k,u=>k<g.n∧u=.ref (g.p k)
noncomputable abbrev Bp(g:Gh)(x:PyData)(u:Value):Prop:=rel g (.d x) u
noncomputable def It:PyData→Option (Int⊕Str)
 |.int i=>some (.inl i)
 |.str s=>some (.inr s)
 |_=>none
structure Cc where
 prog:Program
 w:World
 Cl:Nat→Addr
 h₀:Heap
 G₀:Addr→Option PyData
 K:Frag
 mg:Str→Option Value
 mb:Str→Option Value
 FV:Str→Addr
noncomputable abbrev Cc.M(F:Cc):Model:=model F.prog F.w
noncomputable abbrev Dx(F:Cc):PySem.KeyKind F.prog F.w (Int⊕Str):=aJ F.prog F.w
noncomputable def cU(g:Gh)(o:Obj)(T:String)(xs:List PyData):Prop:=xs.length≤I1∧∃vs n,o={cls:=.type T,data:=.seq vs n}∧A6 (Bp g) xs vs.toList
noncomputable abbrev Qf(g:Gh):List (PyData×V)→List ((Int⊕Str)×Value)→Prop:=A6 λkv e=>It kv.1=some e.1∧rel g kv.2 e.2
noncomputable def dV(l:List (PyData×PyData)):List (PyData×V):=l.map λkv=>(kv.1,.d kv.2)
section
variable(F:Cc)
noncomputable def El(g:Gh)(o:Obj):PyData→Prop
 |.tuple xs=>cU g o "tuple" xs
 |.list xs=>cU g o "list" xs
 |.dict kvs=>kvs.length≤I1∧∃es,o.IsDictOf (Dx F) es∧Qf g (dV kvs) es
 |_=>False
noncomputable def wC(es:List (PyData×Addr×Value)):List DictEntry:=es.map (entryOfKey (Er F.prog F.w))
noncomputable def A67(g:Gh)(m:Str→Option Value)(x:Str):Option V→Prop
 |some v=>∃u,m x=some u∧rel g v u
 |none=>m x=none
noncomputable def P6(g:Gh)(h:Heap)(P Q:Addr):MO→Prop
 |.inst c fs=>P≠Q∧h.get? P=some (instObj (F.Cl c) Q)∧
   ∃m,h.Ns Q m∧(∃o es ep,h.get? Q=some o∧o.cls=.type "dict"∧o.data=.dict es ep∧es.size≤fs.length)∧∀x,A67 g m x (lk x fs)
 |.lst xs=>xs.length≤I1∧∃vs n,h.get? P=some {cls:=.type "list",data:=.seq vs n}∧A6 (rel g) xs vs.toList
 |.dct es=>es.length≤I1∧(∃xs:List (PyData×Addr×Value),(∃o n,h.get? P=some o∧o.ExactDict∧o.data=.dict (wC F xs).toArray n)∧(xs.map (·.1)).Nodup∧
    (∀x∈xs,g.G x.2.1=some x.1∧D8 x.1=true)∧A6 (λe x=>Wa e.1 x.1∧rel g e.2 x.2.2) es xs)
 |.tab es=>es.length≤I1∧(∃xs,h.DictOf (Dx F) P xs∧Qf g es xs)
noncomputable def Z6(g:Gh)(b:Addr):Prop:=∃k,k<g.n∧(b=g.p k∨b=g.q k)
structure Hb(g:Gh)(σ:Sg)(h:Heap):Prop where
 size:g.n=σ.length
 gam:∀a x,g.G a=some x→∃o,h.get? a=some o∧El F g o x
 obj:∀k m,σ[k]?=some m→P6 F g h (g.p k) (g.q k) m
 apart:∀j k,j<g.n→k<g.n→j≠k→g.p j≠g.p k∧g.p j≠g.q k∧g.q j≠g.p k∧g.q j≠g.q k
 own:∀b,Z6 g b→g.G b=none∧F.h₀.get? b=none∧∃o,h.get? b=some o
 base:∀b o,F.h₀.get? b=some o→h.get? b=some o
 first:∀a x,F.G₀ a=some x→g.G a=some x
 sys:∀a x,g.G a=some x→(a==sysModules)=false
end
noncomputable abbrev vV(h h':Heap):Prop:=∀b o,h.get? b=some o→∃o',h'.get? b=some o'
theorem Fc{h:Heap}{a:Addr}{o:Obj}{P:Prop}(e:h.get? a=none)(e':h.get? a=some o):P:=nomatch e.symm.trans e'
theorem vV.fresh{h h':Heap}(a:vV h h'){x:Addr}(e:h'.get? x=none):h.get? x=none:=
 nnI λo q=>(a x o q).elim λη q'=>Fc e q'
structure De(P:Addr→Prop)(g:Gh)(h:Heap)(g':Gh)(h':Heap):Prop where
 n:g.n≤g'.n
 G:∀a x,g.G a=some x→g'.G a=some x
 p:∀k,k<g.n→g'.p k=g.p k∧g'.q k=g.q k
 Gnew:∀a x,g'.G a=some x→g.G a=some x∨h.get? a=none∨P a
 pnew:∀k,g.n≤k→k<g'.n→h.get? (g'.p k)=none∧h.get? (g'.q k)=none
 keep:∀b o,h.get? b=some o→¬Z6 g b→¬P b→h'.get? b=some o
 alive:vV h h'
noncomputable abbrev No:Addr→Prop:=λη=>False
section
variable{P P':Addr→Prop}{g g' g'':Gh}{h h' h'':Heap}
theorem De.same(k:∀b o,h.get? b=some o→¬Z6 g b→¬P b→h'.get? b=some o)(a:vV h h'):De P g h g h':=
 ⟨Nat.le_refl _,λη η e=>e,λη η=>⟨rfl,rfl⟩,λη η e=>.inl e,λη a b=>absurd b (Nat.not_lt.mpr a),k,a⟩
theorem De.refl:De P g h g h:=.same (λη η e η η=>e) λη o e=>⟨o,e⟩
theorem De.mut(t:De P g h g' h'){b:Addr}{o:Obj}(hb:h.get? b=some o)(hm:¬Z6 g b):¬Z6 g' b:=λ⟨k,hk,e⟩=>
 (Nat.lt_or_ge k g.n).elim (λq=>hm ⟨k,q,(t.p k q).1▸(t.p k q).2▸e⟩) λq=>
  e.elim (λe=>Fc (t.pnew k q hk).1 (e▸hb)) λe=>Fc (t.pnew k q hk).2 (e▸hb)
theorem De.trans(t:De P g h g' h')(u:De P' g' h' g'' h'')(hP:∀b,P' b→P b∨h.get? b=none):De P g h g'' h'' where
 n:=Ag t.n u.n
 G:=λa x e=>u.G a x (t.G a x e)
 p:=λk hk=>have z:=u.p k (Nat.lt_of_lt_of_le hk t.n);⟨z.1.trans (t.p k hk).1,z.2.trans (t.p k hk).2⟩
 Gnew:=λa x e=>(u.Gnew a x e).elim (t.Gnew a x) λq=>.inr (q.elim (λq=>.inl (t.alive.fresh q)) λq=>(hP a q).symm)
 pnew:=λk h1 h2=>(Nat.lt_or_ge k g'.n).elim (λq=>(u.p k q).1.symm▸(u.p k q).2.symm▸t.pnew k h1 q) λq=>have z:=u.pnew k q h2;⟨t.alive.fresh z.1,t.alive.fresh z.2⟩
 keep:=λb o e hm hp=>u.keep b o (t.keep b o e hm hp) (t.mut e hm) λq=>(hP b q).elim hp λq=>Fc q e
 alive:=λx o e=>(t.alive x o e).elim λo' e'=>u.alive x o' e'
theorem t0(t:De No g h g' h')(u:De No g' h' g'' h''):De No g h g'' h'':=t.trans u λη x=>x.elim
theorem De.weak(t:De P g h g' h')(hP:∀b,P b→P' b):De P' g h g' h':=
 {t with Gnew:=λa x e=>(t.Gnew a x e).imp id (Or.imp id (hP a)),keep:=λb o e hm hp=>t.keep b o e hm λq=>hp (hP b q)}
structure Gm(g g':Gh):Prop where
 n:g.n≤g'.n
 G:∀a x,g.G a=some x→g'.G a=some x
 p:∀k,k<g.n→g'.p k=g.p k∧g'.q k=g.q k
theorem De.gm(t:De P g h g' h'):Gm g g':=⟨t.n,t.G,t.p⟩
theorem Gm.refl:Gm g g:=⟨Nat.le_refl _,λη η e=>e,λη η=>⟨rfl,rfl⟩⟩
theorem Iy(t:Gm g g'){v:V}{u:Value}(r:rel g v u):rel g' v u:=match v with
 |.o k=>⟨Nat.lt_of_lt_of_le r.1 t.n,r.2.trans (congrArg Value.ref (t.p k r.1).1.symm)⟩
 |.d x=>Mb.imp (λa=>t.G a x) r
theorem Bk(t:De P g h g' h'){v:V}{u:Value}(r:rel g v u):rel g' v u:=Iy t.gm r
theorem Tp(t:Gm g g'){kvs:List (PyData×V)}{es:List ((Int⊕Str)×Value)}(r:Qf g kvs es):Qf g' kvs es:=r.imp λη η r=>⟨r.1,Iy t r.2⟩
theorem i8(t:Gm g g'){o:Obj}{T:String}{xs:List PyData}(h:cU g o T xs):cU g' o T xs:=⟨h.1,h.2.imp λη q=>q.imp λη q=>⟨q.1,q.2.imp λη η=>Iy t⟩⟩
variable{F:Cc}
theorem Ml(t:Gm g g'){o:Obj}{x:PyData}(h:El F g o x):El F g' o x:=by
 cases x
 case list=>exact i8 t h
 case tuple=>exact i8 t h
 case dict=>exact⟨h.1,h.2.imp λη q=>⟨q.1,Tp t q.2⟩⟩
 all_goals exact h
theorem A66(t:Gm g g'){m:Str→Option Value}{x:Str}{v:Option V}(r:A67 g m x v):A67 g' m x v:=match v with
 |none=>r
 |some _=>r.imp λη q=>⟨q.1,Iy t q.2⟩
theorem Cj{a:Addr}{m:Str→Option Value}(k:∀o,h.get? a=some o→h'.get? a=some o)(n:h.Ns a m):h'.Ns a m:=n.imp λη q=>q.imp λη q=>q.imp λη q=>⟨k _ q.1,q.2⟩
theorem Ig{K:Type} [DecidableEq K]{prog:Program}{w:World}{knd:PySem.KeyKind prog w K}{a:Addr}{es:List (K×Value)}(k:∀o,h.get? a=some o→h'.get? a=some o)(n:h.DictOf knd a es):h'.DictOf knd a es:=n.imp λη q=>q.imp λη q=>q.imp λη q=>⟨k _ q.1,q.2⟩
theorem Jw(t:Gm g g'){P Q:Addr}{m:MO}(k1:∀o,h.get? P=some o→h'.get? P=some o)(k2:∀o,h.get? Q=some o→h'.get? Q=some o)(H:P6 F g h P Q m):P6 F g' h' P Q m:=by
 cases m
 case inst=>exact⟨H.1,k1 _ H.2.1,H.2.2.imp λm q=>⟨Cj k2 q.1,q.2.1.imp λo q=>q.imp λη q=>q.imp λη q=>⟨k2 _ q.1,q.2⟩,λx=>A66 t (q.2.2 x)⟩⟩
 case lst=>exact⟨H.1,H.2.imp λη q=>q.imp λη q=>⟨k1 _ q.1,q.2.imp λη η=>Iy t⟩⟩
 case dct=>exact⟨H.1,H.2.imp λη q=>⟨q.1.imp λη q=>q.imp λη q=>⟨k1 _ q.1,q.2⟩,q.2.1,λx hx=>⟨t.G _ _ (q.2.2.1 x hx).1,(q.2.2.1 x hx).2⟩,q.2.2.2.imp λη η r=>⟨r.1,Iy t r.2⟩⟩⟩
 case tab=>exact⟨H.1,H.2.imp λη q=>⟨Ig k1 q.1,Tp t q.2⟩⟩
theorem R2{σ:Sg}(hI:Hb F g σ h){k:Nat}{m:MO}(e:σ[k]?=some m):k<g.n:=by
 rw[hI.size];exact(dU e).1
end
end
section
open PySem PySem.W PySem.Calls
structure RmN(c d:Nat)(A:Around):Prop where
 handled:A.handled=none
 depth:A.depth+4*d+c<recursionLimit
 units:A.units+64*d+c<cLine
noncomputable abbrev Rm(d:Nat)(A:Around):Prop:=RmN 402 d A
noncomputable abbrev Rc(d:Nat)(A:Around):Prop:=RmN 400 d A
noncomputable def zN:PyData→Prop
 |.tuple _=>False
 |_=>True
noncomputable def Oy(env:Env)(a:Addr):Prop:=a=env.locals∨∃x,env.cells.lookup x=some a
noncomputable def B4(env:Env)(h:Heap)(x:Str)(u:Value):Prop:=
 (env.kindOf x=some .local∧∃m,h.Ns env.locals m∧m x=some u)∨(env.kindOf x=some .cell∧∃c,env.cells.lookup x=some c∧h.IsCell c (some u))
noncomputable def Wg(env:Env)(x:Str):Prop:=env.kindOf x=some .local∨env.kindOf x=some .cell
noncomputable def knd(k:NameKind):NameKind:=match k with
 |.free=>.cell
 |k=>k
structure Ma(env:Env)(sc:Scope):Prop where
 kind:env.scope.kind=.function
 globals:env.globals=mainGlobals
 builtins:env.builtins=builtinsNs
 debug:lk "__debug__" sc.names=none
 names:∀x k,lk x sc.names=some k→env.kindOf x=some (knd k)
 cells:∀x,env.kindOf x=some .cell→∃c,env.cells.lookup x=some c
section
variable(F:Cc)
structure Hi(g:Gh)(h:Heap)(a:Addr):Prop where
 here:∃o,h.get? a=some o
 G:g.G a=none
 im:¬Z6 g a
 base:F.h₀.get? a=none
noncomputable def Bh(g:Gh)(h:Heap):V→Value→Prop
 |.d y,u=>∃a o,u=.ref a∧h.get? a=some o∧(El F g o y∧zN y)∧Hi F g h a
 |.o _,_=>False
noncomputable def Ef(g:Gh)(h:Heap)(s:SK)(v:V)(u:Value):Prop:=match s with
 |.val=>rel g v u
 |_=>Bh F g h v u
noncomputable def Li(g:Gh)(h:Heap)(env:Env):Prop:=∀a,Oy env a→Hi F g h a
noncomputable def f9(g:Gh)(h:Heap)(env:Env)(ρ:A1):Prop:=∀x s v,lk x ρ=some (s,v)→Wg env x→∃u,B4 env h x u∧Ef F g h s v u
noncomputable def Wh(n:Heap)(g:Gh)(h:Heap)(v:V)(u:Value):Prop:=Bh F g h v u∧∀a,u=.ref a→n.get? a=none
noncomputable def Vv(g:Gh)(h:Heap):RV→Value→Prop
 |(v,.al _),u=>Bh F g h v u
 |(v,_),u=>rel g v u
set_option backward.match.sparseCases true in
noncomputable def X2(n:Heap)(g:Gh)(h:Heap):RV→Value→Prop
 |(v,.cl),u=>rel g v u
 |(v,.fr),u=>Wh F n g h v u
 |(_,.al _),_=>False
structure Mo(b:Shared)(σ:Sg) where
 h:Heap
 t:Nat
 g:Gh
 inv:Hb F g σ h
end
section
variable{F:Cc}{b:Shared}{σ σ':Sg}
noncomputable abbrev Mo.s(m:Mo F b σ):Shared:={b with heap:=m.h,toks:=m.t}
noncomputable abbrev Mo.tk(m:Mo F b σ)(t:Nat):Mo F b σ:={m with t:=t}
noncomputable abbrev Nx(m:Mo F b σ)(m':Mo F b σ'):Prop:=De No m.g m.h m'.g m'.h
end
set_option backward.match.sparseCases true in
noncomputable abbrev z9(Q:Value→Shared→Prop)(r:Result)(s:Shared):Prop:=match r with
 |.ok (.ret u)=>Q u s
 |_=>False
noncomputable abbrev ff:Value→Shared→Prop:=λη η=>False
noncomputable def Zb(F:Cc)(d:Nat)(w:Wc):Prop:=∀f rs σ rv σ',w.call f rs σ=some (rv,σ')→∀A b(m:Mo F b σ) us,Rc d A→A6 (Vv F m.g m.h) rs us→
 ∀Q,(∀(m':Mo F b σ') u,Nx m m'→X2 F m.h m'.g m'.h rv u→Q u m'.s)→codeAny F.M A (.call (.ref (F.FV f)) ⟨us,[]⟩) (z9 Q) m.s
noncomputable def J6:Nat→Str
 |0=>"TypeTable.__init__"
 |1=>"Decl.__init__"
 |_=>"Thin.__init__"
structure y4(F:Cc)(c:Nat):Prop where
 ga:findIn F.K (.ref (F.Cl c)) "__getattribute__"=some (some (.builtin "object.__getattribute__"))
 gk:findIn F.K (.ref (F.Cl c)) "__getattr__"=some none
 sa:findIn F.K (.ref (F.Cl c)) "__setattr__"=some (some (.builtin "object.__setattr__"))
 dict:hasDictIn F.K (F.Cl c)=true
 over:plainOver F.K (F.Cl c)=true
 attr:∀a,O0 a=true→findIn F.K (.ref (F.Cl c)) a=some none
 makes:makesIn F.K (F.Cl c)=true
 init:findIn F.K (.ref (F.Cl c)) "__init__"=some (some (.ref (F.FV (J6 c))))
 initF:typeIn F.K (.ref (F.FV (J6 c)))=some (.type "function")
 meth:∀m f,R6 c m=some f→O0 m=false∧findIn F.K (.ref (F.Cl c)) m=some (some (.ref (F.FV f)))∧typeIn F.K (.ref (F.FV f))=some (.type "function")∧keepIn F.K (.ref (F.FV f))=true
noncomputable def Sa:Bl→Value
 |.tup=>.type "tuple"
 |.len=>.builtin "len"
 |.all=>.builtin "all"
 |.any=>.builtin "any"
 |.srt=>.builtin "sorted"
noncomputable def Zc(F:Cc)(f:Str)(v:Value):Prop:=F.mg f=none∧F.mb f=some v
structure Am(F:Cc):Prop where
 fns:∀f,gfn f=true→F.mg f=some (.ref (F.FV f))∧keepIn F.K (.ref (F.FV f))=true
 clsG:∀f c init,Kc f=some (c,init)→F.mg f=some (.ref (F.Cl c))∧keepIn F.K (.ref (F.Cl c))=true
 blt:∀f b,nT f=some b→Zc F f (Sa b)
 isi:Zc F "isinstance" (.builtin "isinstance")
 strT:Zc F "str" (.type "str")
 rangeT:Zc F "range" (.type "range")
 kin:F.K.In F.h₀
 cls:∀c,c<3→y4 F c
 nsG:F.h₀.Ns mainGlobals F.mg
 nsB:F.h₀.Ns builtinsNs F.mb
 sys:∃o,F.h₀.get? sysModules=some o
 consts:∀x c,glob x=some c→∃u,F.mg x=some u∧∀g:Gh,(∀a x,F.G₀ a=some x→g.G a=some x)→rel g (.d c) u
 debug:glob "__debug__"=none
section
variable{F:Cc}{P:Addr→Prop}{g g':Gh}{h h':Heap}{σ:Sg}
theorem De.non(t:De P g h g' h'){a:Addr}{o:Obj}(hp:¬P a)(ho:h.get? a=some o)(e:g.G a=none):g'.G a=none:=
 nnI λx q=>(t.Gnew a x q).elim (λr=>nomatch e.symm.trans r) λr=>r.elim (λr=>Fc r ho) hp
theorem Hi.step(t:De P g h g' h'){a:Addr}(hp:¬P a)(p:Hi F g h a):Hi F g' h' a:=
 p.here.elim λo ho=>⟨⟨o,t.keep a o ho p.im hp⟩,t.non hp ho p.G,t.mut ho p.im,p.base⟩
theorem Bh.step(t:De P g h g' h'){v:V}{u:Value}(hp:∀a,u=.ref a→¬P a):Bh F g h v u→Bh F g' h' v u:=match v with
 |.o _=>id
 |.d y=>Exists.imp λa=>Exists.imp λo r=>⟨r.1,t.keep a o r.2.1 r.2.2.2.im (hp a r.1),⟨Ml t.gm r.2.2.1.1,r.2.2.1.2⟩,r.2.2.2.step t (hp a r.1)⟩
theorem Bh.step0(t:De No g h g' h'){v:V}{u:Value}(p:Bh F g h v u):Bh F g' h' v u:=p.step t λη η x=>x
theorem Ic{env:Env}(k:∀a o,Oy env a→h.get? a=some o→h'.get? a=some o){x:Str}{u:Value}(p:B4 env h x u):B4 env h' x u:=
 p.imp (λq=>⟨q.1,q.2.imp λm r=>⟨Cj (λo=>k _ o (.inl rfl)) r.1,r.2⟩⟩) λq=>⟨q.1,q.2.imp λc r=>⟨r.1,r.2.imp λo z=>⟨k _ _ (.inr ⟨x,r.1⟩) z.1,z.2⟩⟩⟩
theorem G4{s:SK}(t:De P g h g' h'){v:V}{u:Value}(hp:s≠.val→∀a,u=.ref a→¬P a)(r:Ef F g h s v u):Ef F g' h' s v u:=by
 cases s
 ·exact Bk t r
 ·exact Bh.step t (hp (λh=>nomatch h)) r
 ·exact Bh.step t (hp (λh=>nomatch h)) r
theorem Li.keeps{env:Env}(t:De No g h g' h')(f:Li F g h env):∀a o,Oy env a→h.get? a=some o→h'.get? a=some o:=λa o q e=>t.keep a o e (f a q).im id
theorem Li.step{env:Env}(t:De No g h g' h')(f:Li F g h env):Li F g' h' env:=λa q=>(f a q).step t id
theorem f9.step{env:Env}{ρ:A1}(t:De No g h g' h')(f:Li F g h env)(l:f9 F g h env ρ):f9 F g' h' env ρ:=λx s v e k=>
 (l x s v e k).imp λu q=>⟨Ic (f.keeps t) q.1,G4 t (λη η η=>id) q.2⟩
theorem B51{n:Heap}{rv:RV}{u:Value}(t:De No g h g' h')(r:X2 F n g h rv u):X2 F n g' h' rv u:=match rv with
 |(_,.cl)=>Bk t r
 |(_,.fr)=>⟨r.1.step0 t,r.2⟩
 |(_,.al _)=>r
theorem o6{rv:RV}{u:Value}(t:De No g h g' h')(r:Vv F g h rv u):Vv F g' h' rv u:=match rv with
 |(_,.cl)=>Bk t r
 |(_,.fr)=>Bk t r
 |(_,.al _)=>Bh.step0 t r
noncomputable def Vw(F:Cc)(g:Gh)(h:Heap)(v:V)(u:Value):Prop:=rel g v u∨Bh F g h v u
theorem Vw.o{k:Nat}{u:Value}(r:Vw F g h (.o k) u):k<g.n∧u=.ref (g.p k):=r.elim id False.elim
theorem Mp(hF:Am F){a:Addr}(h:F.h₀.get? a=none):(a==sysModules)=false:=
 nS λe=>hF.sys.elim λη ho=>Fc (e▸h) ho
theorem Vw.obj(hF:Am F)(hI:Hb F g σ h){x:PyData}{u:Value}(hx:D9 x=true)(r:Vw F g h (.d x) u):∃a o,u=.ref a∧h.get? a=some o∧El F g o x∧(a==sysModules)=false:=by
 rcases r with r|⟨a,o,e,ho,hs,hp⟩
 ·replace r:Mb (D9 x) _ _ u:=r
  rw[hx]at r
  exact Exists.elim r λa q=>(hI.gam a x q.2).elim λo z=>⟨a,o,q.1,z.1,z.2,hI.sys a x q.2⟩
 ·exact⟨a,o,e,ho,hs.1,Mp hF hp.base⟩
theorem Vw.scal{x:PyData}{u:Value}(hx:D9 x=false)(r:Vw F g h (.d x) u):scal x u:=by
 rcases r with r|⟨a,o,e,ho,hs,hp⟩
 ·replace r:Mb (D9 x) _ _ u:=r
  rw[hx]at r
  exact r
 ·cases x<;>first|exact Bool.noConfusion hx|exact False.elim hs.1
theorem Vw.step(t:De No g h g' h'){v:V}{u:Value}(r:Vw F g h v u):Vw F g' h' v u:=r.imp (Bk t) (Bh.step0 t)
theorem Ct{n:Nat}(hn:n≤I1):n≤sizeLine:=Ag hn (by rw[sizeLine_eq];decide)
theorem Dc{n:Nat}(hn:n≤I1):(n:Int) <2^63:=Int.lt_of_le_of_lt (Int.ofNat_le.mpr hn) (by decide)
theorem emp{α:Type}{as:List α}{vs:Array Value}(e:vs.toList.length=as.length):(!vs.isEmpty)= !as.isEmpty:=by
 obtain⟨l⟩:=vs
 cases as<;>cases l<;>first|rfl|exact nomatch e
theorem Vw.lst(hF:Am F)(hI:Hb F g σ h){xs:List PyData}{u:Value}(r:Vw F g h (.d (.list xs)) u):xs.length≤I1∧∃a vs n,u=.ref a∧h.get? a=some {cls:=.type "list",data:=.seq vs n}∧A6 (Bp g) xs vs.toList∧(a==sysModules)=false:=by
 refine Ac λXz hXz=>?_
 obtain⟨a,_,e,h1,⟨hc,vs,n,rfl,al⟩,h3⟩:=r.obj hF hI rfl
 refine hXz ?_
 exact⟨hc,a,vs,n,e,h1,al,h3⟩
theorem Vw.tup(hF:Am F)(hI:Hb F g σ h){xs:List PyData}{u:Value}(r:Vw F g h (.d (.tuple xs)) u):xs.length≤I1∧∃a vs n,u=.ref a∧h.get? a=some {cls:=.type "tuple",data:=.seq vs n}∧A6 (Bp g) xs vs.toList∧g.G a=some (.tuple xs):=by
 refine Ac λXz hXz=>?_
 rcases r with⟨a,e,q⟩|⟨_,_,_,_,hs,_⟩
 ·refine hXz ?_
  refine Ac λXz hXz=>?_
  obtain⟨_,h1,hc,vs,n,rfl,al⟩:=hI.gam a _ q
  refine hXz ?_
  exact⟨hc,a,vs,n,e,h1,al,q⟩
 ·refine hXz ?_
  exact hs.2.elim
theorem Vw.dct(hF:Am F)(hI:Hb F g σ h){xs:List (PyData×PyData)}{u:Value}(r:Vw F g h (.d (.dict xs)) u):xs.length≤I1∧∃a es,u=.ref a∧h.DictOf (Dx F) a es∧Qf g (dV xs) es∧(a==sysModules)=false:=by
 refine Ac λXz hXz=>?_
 obtain⟨a,o,e,h1,⟨hc,es,hd,al⟩,h3⟩:=r.obj hF hI rfl
 refine hXz ?_
 exact⟨hc,a,es,e,Heap.dictOf_iff.mpr ⟨o,h1,hd⟩,al,h3⟩
theorem Vw.lstE(hF:Am F)(hI:Hb F g σ h){xs:List PyData}{u:Value}{P:Value→Prop}(r:Vw F g h (.d (.list xs)) u)(k:∀a vs n,xs.length≤I1→h.get? a=some {cls:=.type "list",data:=.seq vs n}→A6 (Bp g) xs vs.toList→(a==sysModules)=false→P (.ref a)):P u:=
 (r.lst hF hI).2.elim λa q=>q.elim λvs q=>q.elim λn q=>q.1.symm▸k a vs n (r.lst hF hI).1 q.2.1 q.2.2.1 q.2.2.2
theorem Vw.tupE(hF:Am F)(hI:Hb F g σ h){xs:List PyData}{u:Value}{P:Value→Prop}(r:Vw F g h (.d (.tuple xs)) u)(k:∀a vs n,xs.length≤I1→h.get? a=some {cls:=.type "tuple",data:=.seq vs n}→A6 (Bp g) xs vs.toList→g.G a=some (.tuple xs)→P (.ref a)):P u:=
 (r.tup hF hI).2.elim λa q=>q.elim λvs q=>q.elim λn q=>q.1.symm▸k a vs n (r.tup hF hI).1 q.2.1 q.2.2.1 q.2.2.2
theorem Vw.dctE(hF:Am F)(hI:Hb F g σ h){xs:List (PyData×PyData)}{u:Value}{P:Value→Prop}(r:Vw F g h (.d (.dict xs)) u)(k:∀a es,h.DictOf (Dx F) a es→Qf g (dV xs) es→(a==sysModules)=false→P (.ref a)):P u:=
 (r.dct hF hI).2.elim λa q=>q.elim λes q=>q.1.symm▸k a es q.2.1 q.2.2.1 q.2.2.2
theorem Vw.oE{k:Nat}{u:Value}{P:Value→Prop}(r:Vw F g h (.o k) u)(K:k<g.n→P (.ref (g.p k))):P u:=r.o.2.symm▸K r.o.1
theorem Vw.intE{i:Int}{u:Value}{P:Value→Prop}(r:Vw F g h (.d (.int i)) u)(K:∀t,P (.int i t)):P u:=(r.scal rfl:∃t,u=.int i t).elim λt e=>e.symm▸K t
end
end
section
open PySem PySem.W PySem.Calls
section
variable{F:Cc}{b:Shared}{σ σ':Sg}{A:Around}{α β γ δ:Type}
noncomputable def Go(A:Around)(m:Mo F b σ)(R:Gh→Heap→α→β→Prop):Option (α×Sg)→Sem β→Prop
 |none,_=>True
 |some (a,σ'),t=>∀Q:β→Shared→Prop,(∀(m':Mo F b σ') u,Nx m m'→R m'.g m'.h a u→Q u m'.s)→wpAny F.M A t Q ff m.s
noncomputable def bP:Gh→Heap→α→α→Prop:=λη η a u=>a=u
variable{m:Mo F b σ}{R:Gh→Heap→α→β→Prop}{R':Gh→Heap→γ→δ→Prop}
theorem Go.bndF{a:α}{o:Option (γ×Sg)}{t:Sem β}{t':Sem δ}{κ:β→Sem δ}(rule:∀Q,wpAny F.M A t (λu s=>wpAny F.M A (κ u) Q ff s) ff m.s→wpAny F.M A t' Q ff m.s)(h:Go A m R (some (a,σ')) t)
  (k:∀(m':Mo F b σ') u,Nx m m'→R m'.g m'.h a u→∃m2:Mo F b σ',m2.s=m'.s∧Nx m m2∧Go A m2 R' o (κ u)):Go A m R' o t':=
 match o,k with
 |none,_=>trivial
 |some _,k=>λQ hQ=>rule Q (h _ λm' u st r=>(k m' u st r).elim λm2 q=>q.1▸q.2.2 Q λm3 v st3 r3=>hQ m3 v (t0 q.2.1 st3) r3)
theorem Go.f1{R:Gh→Heap→RV→β→Prop}{o:Option (RV×Sg)}{f:V→Kd→Sg→Option (γ×Sg)}{t:Sem β}{t':Sem δ}{κ:β→Sem δ}(rule:∀Q,wpAny F.M A t (λu s=>wpAny F.M A (κ u) Q ff s) ff m.s→wpAny F.M A t' Q ff m.s)(h:Go A m R o t)
  (k:∀v k σ'(m':Mo F b σ') u,Nx m m'→R m'.g m'.h (v,k) u→∃m2:Mo F b σ',m2.s=m'.s∧Nx m m2∧Go A m2 R' (f v k σ') (κ u)):Go A m R' (b1 o f) t':=
 match o,h with
 |none,_=>trivial
 |some _,h=>h.bndF rule λm' u st r=>k _ _ _ m' u st r
theorem Go.f2{o:Option (α×Sg)}{f:α→Sg→Option (γ×Sg)}{t:Sem β}{t':Sem δ}{κ:β→Sem δ}(rule:∀Q,wpAny F.M A t (λu s=>wpAny F.M A (κ u) Q ff s) ff m.s→wpAny F.M A t' Q ff m.s)(h:Go A m R o t)
  (k:∀a σ'(m':Mo F b σ') u,Nx m m'→R m'.g m'.h a u→∃m2:Mo F b σ',m2.s=m'.s∧Nx m m2∧Go A m2 R' (f a σ') (κ u)):Go A m R' (b2 o f) t':=
 match o,h with
 |none,_=>trivial
 |some _,h=>h.bndF rule λm' u st r=>k _ _ m' u st r
theorem Go.r1{R:Gh→Heap→RV→β→Prop}{o:Option (RV×Sg)}{f:V→Kd→Sg→Option (γ×Sg)}{t:Sem β}{t':Sem δ}{κ:β→Sem δ}(rule:∀Q,wpAny F.M A t (λu s=>wpAny F.M A (κ u) Q ff s) ff m.s→wpAny F.M A t' Q ff m.s)(h:Go A m R o t)
  (k:∀v k σ'(m':Mo F b σ') u,Nx m m'→R m'.g m'.h (v,k) u→Go A m' R' (f v k σ') (κ u)):Go A m R' (b1 o f) t':=h.f1 rule λv kd σ' m' u st r=>⟨m',rfl,st,k v kd σ' m' u st r⟩
theorem Go.r2{o:Option (α×Sg)}{f:α→Sg→Option (γ×Sg)}{t:Sem β}{t':Sem δ}{κ:β→Sem δ}(rule:∀Q,wpAny F.M A t (λu s=>wpAny F.M A (κ u) Q ff s) ff m.s→wpAny F.M A t' Q ff m.s)(h:Go A m R o t)
  (k:∀a σ'(m':Mo F b σ') u,Nx m m'→R m'.g m'.h a u→Go A m' R' (f a σ') (κ u)):Go A m R' (b2 o f) t':=h.f2 rule λa σ' m' u st r=>⟨m',rfl,st,k a σ' m' u st r⟩
theorem Go.v1{R:Gh→Heap→RV→β→Prop}{o:Option (RV×Sg)}{f:V→Kd→Sg→Option (γ×Sg)}{t:Sem β}{κ:β→Sem δ}(h:Go A m R o t)
  (k:∀v k σ'(m':Mo F b σ') u,Nx m m'→R m'.g m'.h (v,k) u→Go A m' R' (f v k σ') (κ u)):Go A m R' (b1 o f) (t >>= κ):=h.r1 (λη=>wpAny_bind) k
theorem Go.v2{o:Option (α×Sg)}{f:α→Sg→Option (γ×Sg)}{t:Sem β}{κ:β→Sem δ}(h:Go A m R o t)
  (k:∀a σ'(m':Mo F b σ') u,Nx m m'→R m'.g m'.h a u→Go A m' R' (f a σ') (κ u)):Go A m R' (b2 o f) (t >>= κ):=h.r2 (λη=>wpAny_bind) k
theorem Go.bnd{a:α}{o:Option (γ×Sg)}{t:Sem β}{κ:β→Sem δ}(h:Go A m R (some (a,σ')) t)(k:∀(m':Mo F b σ') u,Nx m m'→R m'.g m'.h a u→Go A m' R' o (κ u)):Go A m R' o (t >>= κ):=
 h.bndF (λη=>wpAny_bind) λm' u st r=>⟨m',rfl,st,k m' u st r⟩
theorem Go.map{g:α→γ}{g':β→δ}{o:Option (α×Sg)}{t:Sem β}(h:Go A m R o t)(k:∀a σ'(m':Mo F b σ') u,Nx m m'→R m'.g m'.h a u→R' m'.g m'.h (g a) (g' u)):Go A m R' (b2 o λa s=>some (g a,s)) (g' <$> t):=
 match o,h with
 |none,_=>trivial
 |some _,h=>λQ hQ=>wpAny_map (h _ λm' u st r=>hQ m' _ st (k _ _ m' u st r))
theorem sA{M:Model}{E:Value→Shared→Prop}{s:Shared}{t:Sem α}{f:α→β}{Q:β→Shared→Prop}(h:wpAny M A (f <$> t) Q E s):wpAny M A t (λa s=>Q (f a) s) E s:=λΓ p hΓ=>by have:=h Γ p hΓ;rwa [Sem.wp_map]at this
theorem Go.vt{o:Option (α×Sg)}{f:α→Sg→Option (γ×Sg)}{t:Sem α}{κ:α→Sem δ}(h:Go A m bP o t)
  (k:∀a σ'(m':Mo F b σ'),Nx m m'→Go A m' R' (f a σ') (κ a)):Go A m R' (b2 o f) (t >>= κ):=h.v2 λa η m' η st r=>r▸k a _ m' st
theorem Go.vo{o:Option δ}{f:δ→Option (α×Sg)}{t:Sem β}(k:∀x,o=some x→Go A m R (f x) t):Go A m R (o1 o f) t:=
 match o,k with
 |none,_=>trivial
 |some x,k=>k x rfl
theorem Go.vi{c:Bool}{o:Option (α×Sg)}{t:Sem β}(k:c=true→Go A m R o t):Go A m R (iB c o) t:=
 match c,k with
 |false,_=>trivial
 |true,k=>k rfl
theorem Go.ve{c:Bool}{o o':Option (α×Sg)}{t t':Sem β}(h:Go A m R o t)(h':Go A m R o' t'):Go A m R (eB c o o') (if c then t else t'):=
 match c with
 |true=>h
 |false=>h'
theorem Go.imp{R':Gh→Heap→α→β→Prop}{o:Option (α×Sg)}{t:Sem β}(f:∀g h a u,R g h a u→R' g h a u)(h:Go A m R o t):Go A m R' o t:=
 match o,h with
 |none,_=>trivial
 |some _,h=>λQ hQ=>h Q λm' u st r=>hQ m' u st (f _ _ _ _ r)
theorem Go.rl{o:Option (α×Sg)}{t t':Sem β}(f:∀Q,wpAny F.M A t Q ff m.s→wpAny F.M A t' Q ff m.s)(h:Go A m R o t):Go A m R o t':=
 match o,h with
 |none,_=>trivial
 |some _,h=>λQ hQ=>f Q (h Q hQ)
theorem Go.at'{o:Option (α×Sg)}{t:Sem β}{p:Pos}(h:Go A m R o t):Go A m R o (standAt p >>=λη=>t):=h.rl λη z=>wpAny_bind (wpAny_standAt z)
theorem Go.hold{o:Option (α×Sg)}{t:Sem β}{vs:List Value}(h:Go A m R o t):Go A m R o (holding vs t):=h.rl λη=>wpAny_holding
theorem Go.oper{R:Gh→Heap→α→Value→Prop}{o:Option (α×Sg)}{t:Sem Value}{vs:List Value}(h:Go A m R o t):Go A m R o (operate vs t):=h.rl λη=>wpAny_operateT
theorem Go.ret{a:α}{u:β}(r:R m.g m.h a u):Go A m R (some (a,σ)) (pure u):=λη hQ=>wpAny_pure (hQ m u .refl r)
theorem Go.leaf{a:α}{t:Sem β}(h:∀Q:β→Shared→Prop,(∀u k,R m.g m.h a u→Q u (m.tk k).s)→wpAny F.M A t Q ff m.s):Go A m R (some (a,σ)) t:=λQ hQ=>h Q λu k r=>hQ (m.tk k) u .refl r
theorem Go.leafB{c:Bool}{t:Sem Bool}(h:∀Q:Bool→Shared→Prop,(∀k,Q c (m.tk k).s)→wpAny F.M A t Q ff m.s):Go A m bP (some (c,σ)) t:=λQ hQ=>h Q λk=>hQ (m.tk k) c .refl rfl
end
structure Th where
 F:Cc
 d:Nat
 w:Wc
 ok:Am F
 call:Zb F d w
noncomputable abbrev Th.I(T:Th):If Sg:=rl T.w
structure Ex(T:Th) where
 b:Shared
 A:Around
 env:Env
 sc:Scope
 ρ:A1
 hA:Rm T.d A
 hE:Ma env sc
structure Cf{T:Th}(x:Ex T)(σ:Sg) extends Mo T.F x.b σ where
 fr:Li T.F g h x.env
 loc:f9 T.F g h x.env x.ρ
section
variable{T:Th}{x:Ex T}{σ σ':Sg}{g g':Gh}{h h' n n':Heap}{v:V}{k:Kd}{u:Value}
noncomputable abbrev Cf.go(c:Cf x σ)(m:Mo T.F x.b σ')(t:Nx c.toMo m):Cf x σ':={m with fr:=c.fr.step t,loc:=c.loc.step t c.fr}
noncomputable def Lh(x:Ex T)(n:Heap)(g:Gh)(h:Heap):RV→Value→Prop
 |(v,.cl),u=>rel g v u
 |(v,.fr),u=>Wh T.F n g h v u
 |(v,.al y),u=>(∃s,lk y x.ρ=some (s,v)∧s≠.val∧B4 x.env h y u)∧Bh T.F g h v u
theorem Lh.vw(r:Lh x n g h (v,k) u):Vw T.F g h v u:=match k with
 |.cl=>.inl r
 |.fr=>.inr r.1
 |.al _=>.inr r.2
theorem Lh.up{rv:RV}(a:vV n n')(r:Lh x n' g h rv u):Lh x n g h rv u:=match rv with
 |(_,.cl)=>r
 |(_,.fr)=>⟨r.1,λb e=>a.fresh (r.2 b e)⟩
 |(_,.al _)=>r
theorem Go.up{c:Cf x σ}{m:Mo T.F x.b σ'}{o:Option (RV×Sg)}{t:Sem Value}(st:Nx c.toMo m)(h:Go x.A m (Lh x m.h) o t):Go x.A m (Lh x c.h) o t:=h.imp λη η η η=>Lh.up st.alive
noncomputable abbrev P2(c:Cf x σ)(o:Option (RV×Sg))(t:Sem Value):Prop:=Go x.A c.toMo (Lh x c.h) o t
noncomputable abbrev GoT(c:Cf x σ)(o:Option (Bool×Sg))(t:Sem Bool):Prop:=Go x.A c.toMo bP o t
noncomputable abbrev Cu(F:Cc)(n:Heap)(g:Gh)(h:Heap)(r:RV)(u:Value):Prop:=X2 F n g h r u
theorem Go.new{m:Mo T.F x.b σ}{o:Option (RV×Sg)}{t:Sem Value}(a:vV n n')(h:Go x.A m (Cu T.F n') o t):Go x.A m (Lh x n) o t:=h.imp λη η r η q=>match r,q with
 |(_,.cl),q=>q
 |(_,.fr),q=>⟨q.1,λb e=>a.fresh (q.2 b e)⟩
 |(_,.al _),q=>q.elim
end
noncomputable abbrev N8(e s:Expr)(env:Env)(p:Pos)(o:Value):Sem Value:=do
 let i ← holding [o] (eval s env)
 standAt p
 let r ← subscripted s (← getitemInPython o) o i
 letTemporaryGo e o r
 pure r
structure SEv(T:Th)(e:Expr)(v:Ev Sg):Prop where
 val:∀(x:Ex T) σ(c:Cf x σ),P2 c (v.val x.sc x.ρ σ) (eval e x.env)
 tst:∀(x:Ex T) σ(c:Cf x σ),GoT c (v.tst x.sc x.ρ σ) (isTrue e x.env (eval e x.env))
noncomputable abbrev SEs(T:Th):List Expr→List (Ev Sg)→Prop:=A6 (SEv T)
section
variable{F:Cc}{b:Shared}{σ:Sg}{A:Around}{m:Mo F b σ}
theorem Ie(hF:Am F){v:V}{u:Value}:Vw F m.g m.h v u→Go A m bP (o1 (Qk v) λc=>some (c,σ)) (truthy u):=by
 refine V.casesOn v (λx=>?_) λη η=>trivial
 refine PyData.casesOn x (λhv=>?_) (λc hv=>?_) (λi hv=>?_) (λs hv=>trivial) (λxs hv=>?_) (λxs hv=>?_) λxs hv=>?_
 ·exact Vw.scal rfl hv▸.leafB λη q=>PyProof.Rows.truthy_none (q m.t)
 ·exact Vw.scal rfl hv▸.leafB λη q=>wpAny_truthy_bool (q m.t)
 ·exact(Vw.scal rfl hv).elim λt e=>e▸.leafB λη q=>PyProof.Rows.truthy_int (q m.t)
 ·obtain⟨hc,a,vs,n,rfl,ho,al,_⟩:=hv.lst hF m.inv
  exact .leafB λη q=>wpAny_truthy_list (items:=vs) ⟨_,ho,rfl,n,rfl⟩ (Dc (Ag (Nat.le_of_eq al.length) hc)) (emp al.length▸q _)
 ·obtain⟨hc,a,vs,n,rfl,ho,al,_⟩:=hv.tup hF m.inv
  exact .leafB λη q=>PyProof.Rows.truthy_tuple (items:=vs) ⟨_,ho,rfl,n,rfl⟩ (Dc (Ag (Nat.le_of_eq al.length) hc)) (emp al.length▸q _)
 ·obtain⟨hc,a,es,rfl,hd,al,hs⟩:=hv.dct hF m.inv
  have hl:es.length=xs.length:=al.length.trans (List.length_map ..)
  refine .leafB λη q=>wpAny_truthy_dict (knd:=Dx F) (kvs:=es) hs hd (Dc (hl▸hc)) ?_
  exact(show(!es.isEmpty)= !xs.isEmpty from by cases es<;>cases xs<;>first|rfl|exact nomatch hl)▸q _
end
section
variable{T:Th}{p:Pos}
theorem SEv.plain{e:Expr}{f:Fn Sg RV}(h:∀(x:Ex T) σ(c:Cf x σ),P2 c (f x.sc x.ρ σ) (eval e x.env))(ht:∀env w,isTrue e env w=(do let v ← w;standAt e.pos;holding [v] (truthy v))):SEv T e (evV T.I p f) where
 val:=h
 tst:=λx σ c=>(ht x.env (eval e x.env)).symm▸(h x σ c).v1 λη η η m' η η r=>.at' (.hold (Ie T.ok r.vw))
theorem mS{c:Const}{k:Nat}:SEv T (.Constant c k p) (ev T.I (.Constant c k p)):=.plain (λx σ m=>by
 cases c<;>first
  |exact trivial
  |exact .leaf λη q=>wpAny_Constant_none (q _ m.t rfl)
  |exact .leaf λη q=>wpAny_Constant_bool (q _ m.t rfl)
  |exact .leaf λη q=>wpAny_Constant_int (q _ _ ⟨_,rfl⟩)
  |exact .leaf λη q=>wpAny_Constant_str (q _ _ ⟨_,rfl⟩)) λη η=>rfl
theorem mR{t a b:Expr}{t' a' b':Ev Sg}(h1:SEv T t t')(h2:SEv T a a')(h3:SEv T b b'):SEv T (.IfExp t a b p) {evV T.I p (λsc ρ s=>b2 (t'.tst sc ρ s) λc s=>eB c (a'.val sc ρ s) (b'.val sc ρ s))with tst:=λsc ρ s=>b2 (t'.tst sc ρ s) λc s=>eB c (a'.tst sc ρ s) (b'.tst sc ρ s)} where
 val:=λx σ c=>(h1.tst x σ c).vt λa η m' st=>.ve (.up st (h2.val x _ (c.go m' st))) (.up st (h3.val x _ (c.go m' st)))
 tst:=λx σ c=>(h1.tst x σ c).vt λa η m' st=>.ve (h2.tst x _ (c.go m' st)) (h3.tst x _ (c.go m' st))
end
end
section
open PySem PySem.W PySem.Calls
section
variable{F:Cc}{g:Gh}{h:Heap}{σ:Sg}
theorem Kl(hI:Hb F g σ h)(x:PyData):x.canLay0=true→∀u,rel g (.d x) u→∃as,Reads h u x as:=by
 refine PyData.rec (motive_1:=λx=>x.canLay0=true→∀u,rel g (.d x) u→∃as,Reads h u x as) (motive_2:=λxs=>PyData.canLayAll0 xs=true→∀us,A6 (Bp g) xs us→∃as,ReadsAll h us xs as) (motive_3:=λη=>True) (motive_4:=λη=>True)
  (λη u r=>r▸⟨_,.none⟩) (λb η u r=>r▸⟨_,.bool b⟩) (λi η u r=>Exists.elim r λt e=>e▸⟨_,.int i t⟩) (λi η u r=>Exists.elim r λt e=>e▸⟨_,.str i t⟩) ?_ ?_ (λη η hc=>Bool.noConfusion hc) (λη us r=>?_) ?_ trivial (λη η η η=>trivial) (λη η η η=>trivial) x
 ·intro xs ih hc u r
  obtain⟨a,rfl,q⟩:=r
  obtain⟨_,ho,_,vs,n,rfl,al⟩:=hI.gam a _ q
  exact(ih hc _ al).elim λas ra=>⟨_,.list ho rfl rfl ra⟩
 ·intro xs ih hc u r
  obtain⟨a,rfl,q⟩:=r
  obtain⟨_,ho,_,vs,n,rfl,al⟩:=hI.gam a _ q
  exact(ih hc _ al).elim λas ra=>⟨_,.tuple ho rfl rfl ra⟩
 ·cases r;exact⟨_,.nil⟩
 ·intro x xs i1 i2 hc us r
  have hc:=Ab hc
  cases r with
  |cons r1 r2=>exact(i1 hc.1 _ r1).elim λas ra=>(i2 hc.2 _ r2).elim λbs rb=>⟨_,.cons ra rb⟩
theorem X4(hI:Hb F g σ h){xs:List PyData}(hc:PyData.canLayAll0 xs=true){us:List Value}(al:A6 (Bp g) xs us):∃as,ReadsAll h us xs as:=by
 induction al with
 |nil=>exact⟨_,.nil⟩
 |cons r _ ih=>
  have hc:=Ab hc
  exact(Kl hI _ hc.1 _ r).elim λas ra=>(ih hc.2).elim λbs rb=>⟨_,.cons ra rb⟩
theorem F1(hI:Hb F g σ h){x:PyData}{u:Value}(hc:x.canLay0=true)(r:Vw F g h (.d x) u):∃as,Reads h u x as:=by
 rcases r with r|⟨a,o,rfl,ho,⟨hs,nt⟩,_⟩
 ·exact Kl hI _ hc _ r
 ·cases x<;>first|exact False.elim hs|exact False.elim nt|exact Bool.noConfusion hc|skip
  refine Ac λXz hXz=>?_
  obtain⟨_,vs,n,rfl,al⟩:=hs
  refine hXz ?_
  exact(X4 hI hc al).elim λas ra=>⟨_,.list ho rfl rfl ra⟩
theorem Gz{x:PyData}(h:Dv x=true):x.canLay0=true∧x.depth≤60:=(Ab h).imp id of_decide_eq_true
theorem Pq{ys:List PyData}(h:ys.all Dv=true):PyData.canLayAll0 ys=true∧PyData.depthAll ys≤60:=Un (λη=>Gz) ys h
theorem Ra{x:PyData}(h:Lx x=true):∃k,It x=some k:=by
 cases x<;>first|exact⟨_,rfl⟩|exact Bool.noConfusion h
theorem Rb{x y:PyData}{a b:Int⊕Str}(h:It x=some a)(h':It y=some b):PyData.eqv x y=decide (a=b):=by
 cases x<;>cases h<;>cases y<;>cases h'
 case int.refl.int.refl=>exact decide_eq_decide.mpr ⟨congrArg _,Sum.inl.inj⟩
 case str.refl.str.refl=>exact decide_eq_decide.mpr ⟨congrArg _,Sum.inr.inj⟩
 all_goals exact(decide_eq_false (λh=>nomatch h)).symm
theorem N2{x:PyData}{k:Int⊕Str}{u:Value}(hk:It x=some k)(r:Vw F g h (.d x) u):(Dx F).is k u=true:=by
 cases x<;>cases hk
 ·exact(r.scal rfl).elim λt e=>e▸Ei _ t
 ·exact(r.scal rfl).elim λt e=>e▸Cr _ t
noncomputable def oL(g:Gh)(o:Option V)(u:Option Value):Prop:=match o,u with
 |some v,some u=>rel g v u
 |none,none=>True
 |_,_=>False
theorem oL.some{o:Option V}{u:Option Value}(r:oL g o u):u.isSome=o.isSome:=by
 cases o<;>cases u<;>first|rfl|exact False.elim r
theorem Xc{k:PyData}{c:Int⊕Str}(hk:It k=some c){kvs:List (PyData×V)}{es:List ((Int⊕Str)×Value)}(h:Qf g kvs es):oL g (Cw k kvs) (valueAt es c):=by
 induction h with
 |nil=>trivial
 | @cons a b as bs h1 _ ih=>
  have e:=Rb h1.1 hk
  unfold valueAt
  rw[List.find?_cons,show Cw k (a::as)=(match PyData.eqv a.1 k with|true=>some a.2|false=>Cw k as)from rfl,e]
  cases decide (b.1=c)
  ·exact ih
  ·exact h1.2
theorem Yc(k:PyData)(l:List (PyData×PyData)):Cw k (dV l)=(Lb k l).map .d:=by
 induction l with
 |nil=>rfl
 |cons a l ih=>
  show(match PyData.eqv a.1 k with|true=>some (V.d a.2)|false=>Cw k (dV l))=(match PyData.eqv a.1 k with|true=>some a.2|false=>Lb k l).map _
  cases PyData.eqv a.1 k
  ·exact ih
  ·rfl
noncomputable def C35(g:Gh)(o:Option V)(u:Option (Addr×Value)):Prop:=oL g o (u.map (·.2))
theorem sC{k:PyData}{c:PyData}(hk:Wa k c){kvs:List (PyData×V)}{es:List (PyData×Addr×Value)}(h:A6 (λkv e=>Wa kv.1 e.1∧rel g kv.2 e.2.2) kvs es):C35 g (Cw k kvs) (atKey es c):=by
 induction h with
 |nil=>trivial
 | @cons a b as bs h1 _ ih=>
  have e:=Qu h1.1 hk
  unfold atKey
  rw[List.find?_cons,show Cw k (a::as)=(match PyData.eqv a.1 k with|true=>some a.2|false=>Cw k as)from rfl,e]
  cases decide (b.1=c)
  ·exact ih
  ·exact h1.2
theorem fN(hF:Am F)(hI:Hb F g σ h){x:PyData}(hx:D8 x=true){u:Value}{P:Value→Prop}(r:Vw F g h (.d x) u)(K:∀a,(Er F.prog F.w).is h x a→g.G a=some x→P (.ref a)):P u:=by
 have e:=F1 hI (Ix 8 x (fD hx)).1 r
 cases x<;>first|exact Bool.noConfusion hx|skip
 exact(r.tup hF hI).2.elim λa q=>q.elim λη q=>q.elim λη q=>q.1.symm▸K a ⟨hx,q.1▸e⟩ q.2.2.2
theorem qQ{x:PyData}{a:Addr}(hx:D8 x=true)(e:g.G a=some x):rel g (.d x) (.ref a):=by
 cases x<;>first|exact Bool.noConfusion hx|skip
 exact⟨a,rfl,e⟩
theorem Zs(hI:Hb F g σ h){P:Addr}{xs:List (PyData×Addr×Value)}(hd:∃o n,h.get? P=some o∧o.ExactDict∧o.data=.dict (wC F xs).toArray n)
  (nd:(xs.map (·.1)).Nodup) (hk:∀x∈xs,g.G x.2.1=some x.1∧D8 x.1=true):Heap.DictOfH (Er F.prog F.w) h P xs:=
 hd.elim λo q=>q.elim λn q=>⟨o,_,n,q.1,q.2.1,q.2.2,rfl,λx hx=>⟨(hk x hx).2,Kl hI _ (Ix 8 _ (fD (hk x hx).2)).1 _ (qQ (hk x hx).2 (hk x hx).1)⟩,nd⟩
theorem aE(hF:Am F)(hI:Hb F g σ h){k:Nat}(hk:k<g.n):(g.p k==sysModules)=false:=Mp hF (hI.own (g.p k) ⟨k,hk,.inl rfl⟩).2.1
theorem Qr(hF:Am F)(hI:Hb F g σ h){n:Nat}{es:List (PyData×V)}(e:σ[n]?=some (.dct es)){x:PyData}(hx:D8 x=true){u:Value}{P:Value→Prop}(r:Vw F g h (.d x) u)
  (K:∀a xs,(Er F.prog F.w).is h x a→Heap.DictOfH (Er F.prog F.w) h (g.p n) xs→C35 g (Cw x es) (atKey xs x)→P (.ref a)):P u:=
 (hI.obj n _ e).2.elim λxs q=>fN hF hI hx r λa his η=>K a xs his (Zs hI q.1 q.2.1 q.2.2.1) (sC ⟨rfl,hx⟩ q.2.2.2)
theorem Xl{n:Nat}{γ:Type}{P:Option γ→Prop}{f:List (PyData×V)→Option γ}(no:P none)(k:∀es,σ[n]?=some (.dct es)→P (f es)):P (match σ[n]? with|some (.dct es)=>f es|_=>none):=by
 cases e:σ[n]? with
 |none=>exact no
 |some mo=>cases mo<;>first|exact no|exact k _ e
theorem zY{n:Nat}{γ:Type}{P:Option γ→Prop}{f:List V→Option γ}(no:P none)(k:∀es,σ[n]?=some (.lst es)→P (f es)):P (match σ[n]? with|some (.lst es)=>f es|_=>none):=by
 cases e:σ[n]? with
 |none=>exact no
 |some mo=>cases mo<;>first|exact no|exact k _ e
theorem zX{n:Nat}{γ:Type}{P:Option γ→Prop}{f:List (PyData×V)→Option γ}(no:P none)(k:∀es,σ[n]?=some (.tab es)→P (f es)):P (match σ[n]? with|some (.tab es)=>f es|_=>none):=by
 cases e:σ[n]? with
 |none=>exact no
 |some mo=>cases mo<;>first|exact no|exact k _ e
theorem rV{n:Nat}{γ:Type}{P:Option γ→Prop}{f:Nat→List (Str×V)→Option γ}(no:P none)(k:∀c fs,σ[n]?=some (.inst c fs)→P (f c fs)):P (match σ[n]? with|some (.inst c fs)=>f c fs|_=>none):=by
 cases e:σ[n]? with
 |none=>exact no
 |some mo=>cases mo<;>first|exact no|exact k _ _ e
end
theorem Sm{α:Type}{R:α→Value→Prop}{xs:List α}{vs:Array Value}(al:A6 R xs vs.toList){j:Nat}{x:α}(e:xs[j]?=some x):∃u,vs[j]?=some u∧R x u:=(al.get e).imp λu q=>⟨Array.getElem?_toList▸q.1,q.2⟩
theorem B6{α:Type}{R:α→Value→Prop}{xs:List α}{vs:Array Value}(al:A6 R xs vs.toList):vs.size=xs.length:=al.length
end
section
open PySem PySem.W PySem.Calls
section
variable{F:Cc}{b:Shared}{σ:Sg}{A:Around}{m:Mo F b σ}{d:Nat}
theorem j4{M:Model}{s:Shared}{t:Sem Bool}{Q:Bool→Shared→Prop}(h:∀Q':Value→Shared→Prop,(∀r s',Q r s'→Q' (.bool r) s')→wpAny M A (t >>=λr=>pure (.bool r)) Q' ff s):wpAny M A t Q ff s:=λΓ p hΓ=>by
 have:=h (λv s'=>match v with|.bool r=>Q r s'|_=>False) (λη η z=>z) Γ p hΓ
 rw[Sem.wp_bind']at this
 exact this
noncomputable def M8:Gh→Heap→Bool→Value→Prop:=λη η c u=>u=.bool c
theorem Go.not{o:Option (Bool×Sg)}{t:Sem Bool}(h:Go A m bP o t):Go A m bP (b2 o λc s=>some (!c,s)) (t >>=λc=>pure !c):=h.vt λc η m' η=>.ret rfl
theorem Go.boo{o:Option (Bool×Sg)}{t:Sem Bool}(h:Go A m bP o t):Go A m M8 o (t >>=λc=>pure (.bool c)):=
 match o,h with
 |none,_=>trivial
 |some _,h=>h.bnd λm' u η r=>.ret (congrArg Value.bool r.symm)
theorem zM{o:Option Bool}:(o1 (o1 o λc=>some !c) λc=>some (c,σ))=b2 (o1 o λc=>some (c,σ)) λc s=>some (!c,s):=by cases o<;>rfl
theorem Go.noo{o:Option Bool}{t:Sem Bool}(h:Go A m bP (o1 o λc=>some (c,σ)) t):Go A m M8 (o1 (o1 o λc=>some !c) λc=>some (c,σ)) (t >>=λc=>pure (.bool !c)):=by
 exact(zM)▸match o,h with
 |none,_=>trivial
 |some _,h=>h.bnd λm' u η r=>.ret (congrArg (λc=>Value.bool !c) r.symm)
theorem Go.vif{α β δ:Type}{R:Gh→Heap→α→β→Prop}{t:Sem β}{c:Bool}{x:δ}{f:δ→Option (α×Sg)}(k:c=true→Go A m R (f x) t):Go A m R (o1 (iB c (some x)) f) t:=
 match c,k with
 |false,_=>trivial
 |true,k=>k rfl
variable{ua ub:Value}
theorem g7{n k:Nat}(hA:Rm d A)(h:n≤60):A.units+1+min n k<cLine:=
 Nat.lt_of_le_of_lt (Ag (Nat.le_of_eq (Nat.add_assoc _ 1 _)) (Nat.add_le_add (Nat.le_add_right _ _) (Ag (Nat.add_le_add_left (Ag (Nat.min_le_left ..) h) 1) (by decide)))) hA.units
theorem Go.mem{c x:Bool}{t:Sem Bool}(k:c=true→∀Q:Value→Shared→Prop,(∀k,Q (.bool x) (m.tk k).s)→wpAny F.M A (t >>=λr=>pure (.bool r)) Q ff m.s):Go A m bP (o1 (iB c (some x)) λc=>some (c,σ)) t:=
 .vif λe=>.leafB λη hQ=>j4 λQ h=>k e Q λk=>h _ _ (hQ k)
noncomputable def oH(A:Around)(m:Mo F b σ)(va vb:V)(ua ub:Value):Prop:=Go A m bP (o1 (A01 va vb σ) λc=>some (c,σ)) (contains ub ua)
theorem jR(hA:Rm d A){a:PyData}{ys:List PyData}(ha:Vw F m.g m.h (.d a) ua)(hb:Vw F m.g m.h (.d (.list ys)) ub):oH A m (.d a) (.d (.list ys)) ua ub:=.mem λe η hQ=>
 have e:=Ab e
 (F1 m.inv (Gz e.1).1 ha).elim λη ra=>(F1 (x:=.list ys) m.inv (Pq e.2).1 hb).elim λη rb=>SeqAt.in_list_reads rb ra (Pq e.2).1 (Gz e.1).1 (g7 hA (Pq e.2).2) (hQ m.t)
theorem rY(hA:Rm d A){a:PyData}{ys:List PyData}(ha:Vw F m.g m.h (.d a) ua)(hb:Vw F m.g m.h (.d (.tuple ys)) ub):oH A m (.d a) (.d (.tuple ys)) ua ub:=.mem λe η hQ=>
 have e:=Ab e
 (F1 m.inv (Gz e.1).1 ha).elim λη ra=>(F1 (x:=.tuple ys) m.inv (Pq e.2).1 hb).elim λη rb=>SeqAt.in_tuple_reads rb ra (Pq e.2).1 (Gz e.1).1 (g7 hA (Pq e.2).2) (hQ m.t)
theorem pL(hA:Rm d A):A.units+1+64<cLine:=Nat.lt_of_le_of_lt (Ag (Nat.le_of_eq (Nat.add_assoc _ 1 64)) (Nat.add_le_add (Nat.le_add_right _ _) (by decide))) hA.units
theorem rZ(hF:Am F){a:PyData}{kvs:List (PyData×PyData)}(ha:Vw F m.g m.h (.d a) ua)(hb:Vw F m.g m.h (.d (.dict kvs)) ub):oH A m (.d a) (.d (.dict kvs)) ua ub:=.mem λe Q hQ=>(Ra e).elim λk hk=>by
 refine hb.dctE hF m.inv (P:=λub=>wpAny F.M A (contains ub ua >>=λr=>pure (.bool r)) Q ff m.s) λη es hd al hs=>wpAny_in_of (knd:=Dx F) (N2 hk ha) hs hd.mapOf ?_
 rw[show(valueAt es k).isSome=(Lb a kvs).isSome from(Xc hk al).some.trans (Yc ..▸Option.isSome_map ..)]
 exact hQ _
theorem jQ(hF:Am F)(hA:Rm d A){a:PyData}{k:Nat}(ha:Vw F m.g m.h (.d a) ua)(hb:Vw F m.g m.h (.o k) ub):oH A m (.d a) (.o k) ua ub:=hb.oE λhk=>Xl (P:=λo=>Go A m bP (o1 o λc=>some (c,σ)) _) trivial λes e0=>.mem λe Q hQ=>by
 refine Qr hF m.inv e0 e ha (P:=λua=>wpAny F.M A (contains (.ref (m.g.p k)) ua >>=λr=>pure (Value.bool r)) Q ff m.s) λη xs h2 hd q=>wpAny_in_heap (knd:=Er F.prog F.w) (pL hA) h2 (aE hF m.inv hk) hd ?_
 rw[show(atKey xs a).isSome=(Cw a es).isSome from(Option.isSome_map ..).symm.trans q.some]
 exact hQ _
theorem lX(hF:Am F)(hA:Rm d A){va vb:V}(ha:Vw F m.g m.h va ua)(hb:Vw F m.g m.h vb ub):oH A m va vb ua ub:=by
 cases va with
 |o=>exact trivial
 |d=>cases vb with
  |o=>exact jQ hF hA ha hb
  |d b=>cases b with
   |list=>exact jR hA ha hb
   |tuple=>exact rY hA ha hb
   |dict=>exact rZ hF ha hb
   |_=>exact trivial
theorem Mi{v:V}(h:isNone v=true){u:Value}(r:Vw F m.g m.h v u):u=.none:=by
 revert h r
 refine V.casesOn v (λx=>?_) λη h=>Bool.noConfusion h
 cases x<;>first|exactλη r=>r.scal rfl|exactλh=>Bool.noConfusion h
theorem pE(hF:Am F){v:V}(h:isNone v=false){u:Value}(r:Vw F m.g m.h v u):u≠.none:=by
 rintro rfl
 cases v with
 |o k=>exact nomatch r.o.2
 |d x=>
  cases e:D9 x
  ·have:=r.scal e
   cases x<;>first|exact Bool.noConfusion h|exact nomatch (show Value.none=_ from this)|exact this.elim (λη e=>nomatch e)|exact this
  ·exact(r.obj hF m.inv e).elim λη q=>q.elim λη q=>nomatch q.1
theorem bB(hF:Am F){va vb:V}(ha:Vw F m.g m.h va ua)(hb:Vw F m.g m.h vb ub):Go A m bP (o1 (iA va vb) λc=>some (c,σ)) (isSame ua ub):=by
 refine .vif λe=>.leafB λQ hQ=>j4 λQ' hQ'=>?_
 rw[Mi e hb]
 cases q:isNone va<;>rw[q]at hQ
 ·exact PyProof.Rows.is_none_ne (pE hF q ha) (hQ' _ _ (hQ m.t))
 ·exact(Mi q ha).symm▸PyProof.Rows.is_none_none (hQ' _ _ (hQ m.t))
theorem Ed{α β γ:Type}{R:Gh→Heap→α→β→Prop}{f:Int→Int→Option γ}{va vb:V}{κ:Value→Value→Sem β}{o:γ→Option (α×Sg)}(ha:Vw F m.g m.h va ua)(hb:Vw F m.g m.h vb ub)
  (k:∀i j t t',Go A m R (o1 (f i j) o) (κ (.int i t) (.int j t'))):Go A m R (o1 (A23 f va vb) o) (κ ua ub):=by
 revert ha hb
 refine V.casesOn va (λa=>?_) λη η η=>trivial
 cases a<;>try exactλη η=>trivial
 refine V.casesOn vb (λb=>?_) λη η η=>trivial
 cases b<;>try exactλη η=>trivial
 exactλha hb=>(ha.scal rfl).elim λt e=>(hb.scal rfl).elim λt' e'=>e▸e'▸k _ _ t t'
theorem x9(hA:Rm d A){va vb:V}{f:Bool→Bool}{op:CmpOp}(rule:∀{x y:PyData}{as bs:List Addr}{Q:Value→Shared→Prop},Reads m.h ua x as→Reads m.h ub y bs→x.canLay0=true→y.canLay0=true→A.units+min x.depth y.depth<cLine→Q (.bool (f (PyData.eqv x y))) m.s→wpAny F.M A (compareOp op ua ub) Q ff m.s)
  (ha:Vw F m.g m.h va ua) (hb:Vw F m.g m.h vb ub):Go A m M8 (o1 (o1 (n8 eqD va vb) λc=>some (f c)) λc=>some (c,σ)) (compareOp op ua ub):=by
 revert ha hb
 refine V.casesOn va (λa=>?_) λη η η=>trivial
 refine V.casesOn vb (λb ha hb=>?_) λη η η=>trivial
 show Go A m M8 (o1 (o1 (iB _ _) _) _) _
 cases e:Dv a&&Dv b
 ·exact trivial
 ·have e:=Ab e
  have h1:=Gz e.1
  have h2:=Gz e.2
  exact(F1 m.inv h1.1 ha).elim λas ra=>(F1 m.inv h2.1 hb).elim λbs rb=>
   .leaf λQ q=>rule ra rb h1.1 h2.1 (Nat.lt_of_succ_lt (Nat.succ_add _ _▸g7 hA h1.2)) (q _ m.t rfl)
theorem B62{α:Type}{o:Option α}:o1 o (λc=>some c)=o:=by cases o<;>rfl
theorem Ro(hF:Am F)(hA:Rm d A){op:CmpOp}{va vb:V}(ha:Vw F m.g m.h va ua)(hb:Vw F m.g m.h vb ub):Go A m M8 (o1 (Cp op va vb σ) λc=>some (c,σ)) (compareOp op ua ub):=by
 cases op
 case Eq=>exact(congrArg (λo=>Go A m M8 (o1 o λc=>some (c,σ)) (compareOp .Eq ua ub)) (B62 (o:=n8 eqD va vb))).mp (x9 (f:=λc=>c) hA (λra rb h1 h2 h3 q=>SeqAt.compareEq_reads ra rb h1 h2 h3 q) ha hb)
 case NotEq=>exact x9 hA (λra rb h1 h2 h3 q=>SeqAt.compareNe_reads ra rb h1 h2 h3 q) ha hb
 case Lt=>exact Ed ha hb λi j t t'=>.leaf λη q=>PySem.P.lt_int (q _ m.t rfl)
 case LtE=>exact Ed ha hb λi j t t'=>.leaf λη q=>PySem.P.le_int (q _ m.t rfl)
 case Gt=>exact Ed ha hb λi j t t'=>.leaf λη q=>PySem.P.gt_int (q _ m.t rfl)
 case GtE=>exact Ed ha hb λi j t t'=>.leaf λη q=>PySem.P.ge_int (q _ m.t rfl)
 case Is=>exact(bB hF ha hb).boo
 case IsNot=>exact(bB hF ha hb).noo
 case In=>exact(lX hF hA ha hb).boo
 case NotIn=>exact(lX hF hA ha hb).noo
end
end
section
open PySem PySem.W PySem.Calls
section
variable{F:Cc}{g g' g₁ g₀:Gh}{h h' h₁ h₀:Heap}{σ:Sg}
theorem dA{a b:Addr}{x:PyData}{P:Prop}(n:g.G a=none)(e:g.G b=some x)(q:b=a):P:=nomatch n.symm.trans (q▸e:g.G a=some x)
theorem Hb.part(hI:Hb F g σ h){a:Addr}(hp:Hi F g h a)(k:∀b o,b≠a→h.get? b=some o→h'.get? b=some o):Hb F g σ h':=
 have hG:∀b x,g.G b=some x→b≠a:=λb x e q=>dA hp.G e q
 have hM:∀b,Z6 g b→b≠a:=λb m q=>hp.im (q▸m)
 {hI with
  gam:=λb x e=>(hI.gam b x e).imp λo q=>⟨k _ _ (hG b x e) q.1,q.2⟩
  obj:=λj m e=>Jw .refl (λo=>k _ o (hM _ ⟨j,R2 hI e,.inl rfl⟩)) (λo=>k _ o (hM _ ⟨j,R2 hI e,.inr rfl⟩)) (hI.obj j m e)
  own:=λb hb=>⟨(hI.own b hb).1,(hI.own b hb).2.1,(hI.own b hb).2.2.imp λo=>k _ o (hM b hb)⟩
  base:=λb o e=>k b o (λq=>Fc hp.base (q▸e)) (hI.base b o e)}
theorem Hb.keep(hI:Hb F g σ h)(k:∀b o,h.get? b=some o→h'.get? b=some o):Hb F g σ h':=
 {hI with
  gam:=λb x e=>(hI.gam b x e).imp λo q=>⟨k _ _ q.1,q.2⟩
  obj:=λj m e=>Jw .refl (λo=>k _ o) (λo=>k _ o) (hI.obj j m e)
  own:=λb hb=>⟨(hI.own b hb).1,(hI.own b hb).2.1,(hI.own b hb).2.2.imp λo=>k _ o⟩
  base:=λb o e=>k b o (hI.base b o e)}
theorem De.keeps{P:Addr→Prop}(k:∀b o,h.get? b=some o→h'.get? b=some o):De P g h g h':=.same (λb o e η η=>k b o e) λb o e=>⟨o,k b o e⟩
theorem De.part{a:Addr}(k:∀b o,b≠a→h.get? b=some o→h'.get? b=some o)(n:∃o,h'.get? a=some o):De (· =a) g h g h':=
 .same (λb o e η q=>k b o q e) λb o e=>(Nat.decEq b a).byCases (λq=>q▸n) λq=>⟨o,k b o q e⟩
theorem C0{a:Addr}(hs:Heap.SameBut a h h'):∀b o,b≠a→h.get? b=some o→h'.get? b=some o:=λb o n e=>(hs.2 b n).trans e
theorem Hb.priv(hI:Hb F g σ h){a:Addr}(hp:Hi F g h a)(hs:Heap.SameBut a h h'):Hb F g σ h':=hI.part hp (C0 hs)
theorem De.priv{a:Addr}(hs:Heap.SameBut a h h')(n:∃o,h'.get? a=some o):De (· =a) g h g h':=.part (C0 hs) n
theorem Hi.priv{a:Addr}(hp:Hi F g h a)(n:∃o,h'.get? a=some o):Hi F g h' a:=⟨n,hp.G,hp.im,hp.base⟩
theorem De.fresh{P:Addr→Prop}(st:De P g₀ h₀ g h){a:Addr}(ha:h₀.get? a=none)(t:De (· =a) g h g' h'):De P g₀ h₀ g' h':=st.trans t λb e=>.inr (e▸ha)
theorem Dh(o:Obj):∀b x,h.get? b=some x→(h.push o).get? b=some x:=λη η e=>Heap.get?_push_of_some _ e
theorem Ar(o:Obj):De No g h g (h.push o):=.keeps (Dh o)
theorem R4{a:Addr}(e:h.objs.size≤a):h.get? a=none:=nnI λη q=>Nat.not_lt.mpr e (Heap.lt_size q)
theorem Ap(h:Heap):h.get? h.objs.size=none:=R4 (Nat.le_refl _)
theorem Hi.new(hI:Hb F g σ h){a:Addr}(hn:h.get? a=none)(ho:∃o,h'.get? a=some o):Hi F g h' a:=
 ⟨ho,nnI λx e=>(hI.gam a x e).elim λη q=>Fc hn q.1,λhm=>(hI.own a hm).2.2.elim λη q=>Fc hn q,
  nnI λo e=>Fc hn (hI.base a o e)⟩
noncomputable def Gh.add(g:Gh)(a:Addr)(y:PyData):Gh:={g with G:=λb=>if b=a then some y else g.G b}
theorem Oq{a b:Addr}{y:PyData}(e:b≠a):(g.add a y).G b=g.G b:=if_neg e
theorem W4{a:Addr}{y:PyData}:(g.add a y).G a=some y:=if_pos rfl
theorem oA{a b:Addr}{x y:PyData}(n:g.G a=none)(e:g.G b=some x):(g.add a y).G b=some x:=(Oq λq=>dA n e q).trans e
theorem Yy{a:Addr}{y:PyData}(n:g.G a=none):Gm g (g.add a y):=⟨Nat.le_refl _,λη η=>oA n,λη η=>⟨rfl,rfl⟩⟩
theorem So(hF:Am F)(hI:Hb F g σ h){a:Addr}{y:PyData}{o:Obj}(ho:h.get? a=some o)(hs:El F g o y)(hp:Hi F g h a):Hb F (g.add a y) σ h:=
 have f:=Yy (y:=y) hp.G
 {hI with
  gam:=λb x e=>(Nat.decEq b a).byCases (λq=>⟨o,q▸ho,Ml f (Cd ((congrArg (g.add a y).G q).symm.trans e |>.symm.trans W4)▸hs)⟩) λq=>(hI.gam b x ((Oq q).symm.trans e)).imp λη z=>⟨z.1,Ml f z.2⟩
  obj:=λk m e=>Jw f (λη e=>e) (λη e=>e) (hI.obj k m e)
  own:=λb hb=>⟨(Oq (a:=a) (b:=b) λq=>hp.im (q▸(show Z6 g b from hb))).trans (hI.own b hb).1,(hI.own b hb).2⟩
  first:=λb x e=>oA hp.G (hI.first b x e)
  sys:=λb x e=>(Nat.decEq b a).byCases (λq=>q▸Mp hF hp.base) λq=>hI.sys b x ((Oq q).symm.trans e)}
theorem Mz{a:Addr}{y:PyData}(n:g.G a=none):De (· =a) g h (g.add a y) h:=
 {De.refl (P:=(· =a)) (g:=g) (h:=h)with
  G:=λb x e=>oA n e
  p:=λη η=>⟨rfl,rfl⟩
  Gnew:=λb x e=>(Nat.decEq b a).byCases (λq=>.inr (.inr q)) λq=>.inl ((Oq q).symm.trans e)
  pnew:=λη a b=>absurd b (Nat.not_lt.mpr a)}
theorem Nb{o:Obj}{y:PyData}(h:El F g o y):D9 y=true:=by
 cases y<;>first|rfl|exact False.elim h
theorem Qv(y:PyData)(a:Addr)(hy:D9 y=true):rel (g.add a y) (.d y) (.ref a):=by
 show Mb (D9 y) _ _ _
 rw[hy]
 exact⟨a,rfl,W4⟩
theorem Gw{o:Obj}{y:PyData}(h:El F g o y):o.isFreed=false:=by
 cases y<;>first|exact False.elim h|(obtain⟨_,vs,n,rfl,_⟩:=h;rfl)|skip
 obtain⟨_,es,⟨_,_,_,e,_⟩,_⟩:=h
 cases o;cases e;rfl
theorem rC(hF:Am F)(hI:Hb F g₁ σ h₁)(st:De No g h g₁ h₁){v:V}{u:Value}(r:Wh F h g₁ h₁ v u):∃g₂,Hb F g₂ σ h₁∧De No g h g₂ h₁∧Gm g₁ g₂∧rel g₂ v u:=by
 obtain⟨r,hn⟩:=r
 cases v with
 |o=>exact r.elim
 |d y=>
  refine Ac λXz hXz=>?_
  obtain⟨a,o,rfl,ho,hs,hp⟩:=r
  refine hXz ?_
  exact⟨g₁.add a y,So hF hI ho hs.1 hp,st.fresh (hn a rfl) (Mz hp.G),Yy hp.G,Qv y a (Nb hs.1)⟩
end
section
variable{F:Cc}{b:Shared}{σ σ':Sg}{A:Around}
noncomputable abbrev Mo.push(m:Mo F b σ)(o:Obj):Mo F b σ:={m with h:=m.h.push o,inv:=m.inv.keep (Dh o)}
theorem Mo.own(m:Mo F b σ){o:Obj}{y:PyData}(hs:El F m.g o y)(hy:zN y):Wh F m.h m.g (m.h.push o) (.d y) (.ref m.h.objs.size):=
 have e:=Heap.get?_push_size m.h (Gw hs)
 ⟨⟨_,o,rfl,e,⟨hs,hy⟩,.new m.inv (Ap _) ⟨_,e⟩⟩,λa e=>Value.ref.inj e▸Ap _⟩
noncomputable abbrev Mo.frz(hF:Am F)(m:Mo F b σ)(o:Obj)(y:PyData)(hs:El F m.g o y):Mo F b σ:=
 {m.push o with g:=m.g.add m.h.objs.size y,inv:=So hF (m.push o).inv (Heap.get?_push_size m.h (Gw hs)) hs (.new m.inv (Ap _) ⟨_,Heap.get?_push_size m.h (Gw hs)⟩)}
theorem Mo.frz_nx(hF:Am F)(m:Mo F b σ){o:Obj}{y:PyData}(hs:El F m.g o y):Nx m (m.frz hF o y hs):=(Ar o).fresh (Ap _) (Mz (Hi.new m.inv (Ap _) ⟨_,Heap.get?_push_size m.h (Gw hs)⟩).G)
theorem Mo.frz_rel(hF:Am F)(m:Mo F b σ){o:Obj}{y:PyData}(hs:El F m.g o y):rel (m.frz hF o y hs).g (.d y) (.ref m.h.objs.size):=Qv y _ (Nb hs)
end
section
variable{T:Th}{x:Ex T}{σ σ':Sg}{g g':Gh}{h h' n:Heap}{v:V}{k:Kd}{u:Value}
noncomputable def G9(x:Ex T)(g:Gh)(h:Heap):RV→Value→Prop
 |(v,.al y),u=>Lh x h g h (v,.al y) u
 |(v,_),u=>rel g v u
theorem cC{w:V}{y:Str}(f:Li T.F g h x.env)(t:De No g h g' h')(r:Lh x n g h (w,.al y) u):Lh x n g' h' (w,.al y) u:=⟨r.1.imp λs q=>⟨q.1,q.2.1,Ic (f.keeps t) q.2.2⟩,r.2.step0 t⟩
theorem Lh.step{rv:RV}(f:Li T.F g h x.env)(t:De No g h g' h')(r:Lh x n g h rv u):Lh x n g' h' rv u:=match rv with
 |(_,.cl)=>Bk t r
 |(_,.fr)=>⟨r.1.step0 t,r.2⟩
 |(_,.al _)=>cC f t r
theorem G9.step{rv:RV}(f:Li T.F g h x.env)(t:De No g h g' h')(r:G9 x g h rv u):G9 x g' h' rv u:=match rv with
 |(_,.cl)=>Bk t r
 |(_,.fr)=>Bk t r
 |(_,.al _)=>cC (n:=h) f t r
theorem G9.vw(r:G9 x g h (v,k) u):Vw T.F g h v u:=match k with
 |.cl=>.inl r
 |.fr=>.inl r
 |.al _=>.inr r.2
theorem G9.arg{rv:RV}(r:G9 x g h rv u):Vv T.F g h rv u:=match rv with
 |(_,.cl)=>r
 |(_,.fr)=>r
 |(_,.al _)=>r.2
theorem G9.clean{rv:RV}(r:G9 x g h rv u)(e:clean rv=some v):rel g v u:=match rv with
 |(_,.cl)=>Cd e▸r
 |(_,.fr)=>Cd e▸r
 |(_,.al _)=>Ao e
theorem Dt{rv:RV}{y:PyData}(e:Em rv=some y):Mine.clean rv=some (.d y):=match rv with
 |(.d _,.cl)=>congrArg (Option.map V.d) e
 |(.d _,.fr)=>congrArg (Option.map V.d) e
 |(.d _,.al _)=>Ao e
 |(.o _,.cl)=>Ao e
 |(.o _,.fr)=>Ao e
 |(.o _,.al _)=>Ao e
theorem eP{rs:List RV}{us:List Value}(al:A6 (G9 x g h) rs us):∀{xs:List PyData},Ek rs=some xs→A6 (Bp g) xs us:=by
 induction al with
 |nil=>intro xs e;cases e;exact .nil
 | @cons r u rs us a _ ih=>
  intro xs e
  replace e:(match Em r,Ek rs with|some x,some xs=>some (x::xs)|_,_=>none)=some xs:=e
  cases e1:Em r<;>rw[e1]at e
  ·exact Ao e
  ·cases e2:Ek rs<;>rw[e2]at e
   ·exact Ao e
   ·exact Cd e▸.cons (a.clean (Dt e1)) (ih e2)
theorem Cf.frz{c:Cf x σ}(m:Mo T.F x.b σ')(st:Nx c.toMo m){rv:RV}(r:Lh x c.h m.g m.h rv u):∃m':Mo T.F x.b σ',m'.s=m.s∧Nx c.toMo m'∧G9 x m'.g m'.h rv u:=match rv with
 |(_,.cl)=>⟨m,rfl,st,r⟩
 |(_,.fr)=>(rC T.ok m.inv st r).elim λg2 q=>⟨{m with g:=g2,inv:=q.1},rfl,q.2.1,q.2.2.2⟩
 |(_,.al _)=>⟨m,rfl,st,r⟩
end
end
section
open PySem PySem.W PySem.Calls PyProof.Rows
section
variable{F:Cc}{b:Shared}{σ:Sg}{A:Around}{m:Mo F b σ}{d:Nat}{ua ub:Value}
theorem Go.vig{α β δ ε:Type}{R:Gh→Heap→α→β→Prop}{t:Sem β}{c:Bool}{x:δ}{g:δ→Option ε}{f:ε→Option (α×Sg)}(k:c=true→Go A m R (o1 (g x) f) t):Go A m R (o1 (o1 (iB c (some x)) g) f) t:=
 match c,k with
 |false,_=>trivial
 |true,k=>k rfl
theorem P7{a:Int}(h:a.natAbs<2^40):Builtin.Int.intBits a≤64:=by
 unfold Builtin.Int.intBits
 split
 ·decide
 ·rename_i h0
  exact Ag ((Nat.log2_lt (λe=>h0 (by rw[Int.natAbs_eq_zero.mp e];rfl))).mpr h) (by decide)
theorem Dp{n:Nat}(h:room n=true):n≤I1:=Nat.le_of_ble_eq_true h
noncomputable abbrev Af(T:String)(vs:Array Value)(n:Nat):Obj:={cls:=.type T,data:=.seq vs n}
theorem Iv{g:Gh}{T:String}{xs:List PyData}{vs:Array Value}(hl:xs.length≤I1)(al:A6 (Bp g) xs vs.toList):cU g (Af T vs 0) T xs:=⟨hl,vs,0,rfl,al⟩
theorem isE{α:Type}{x:List α}{v:Array Value}(e:v.size=x.length)(h:v.isEmpty=true):x=[]:=List.length_eq_zero_iff.mp (e.symm.trans (Array.isEmpty_iff_size_eq_zero.mp h))
theorem Tg{xs ys:List PyData}{vs ws:Array Value}(hr:room (xs++ys).length=true)(al:vs.size=xs.length)(al':ws.size=ys.length):vs.size+ws.size≤sizeLine:=by
 have:=Ct (Dp hr)
 rw[List.length_append]at this
 simp only[al,al'];exact this
theorem tY(hF:Am F){xs ys:List PyData}(ha:Vw F m.g m.h (.d (.tuple xs)) ua)(hb:Vw F m.g m.h (.d (.tuple ys)) ub)(hr:room (xs++ys).length=true):Go A m (Cu F m.h) (some ((.d (.tuple (xs++ys)),.cl),σ)) (binaryOp .Add ua ub):=by
 obtain⟨_,l,vs,n,rfl,ho,al,hg⟩:=ha.tup hF m.inv
 obtain⟨_,k,vs',n',rfl,ho',al',hg'⟩:=hb.tup hF m.inv
 have hl:=B6 al
 have hl':=B6 al'
 cases hv:vs.isEmpty
 ·cases hw:vs'.isEmpty
  ·have q:El F m.g (Af "tuple" (vs++vs') 0) (.tuple (xs++ys)):=Iv (Dp hr) (by rw[Array.toList_append];exact al.append al')
   exactλQ hQ=>concat_meets ⟨_,ho,rfl⟩ ⟨_,ho',rfl⟩ noFill_tuple_add seq_tuple_add PySem.F.slot_tuple_add PySem.F.entry_tuple_add (PySem.F.args_tuple_add_2 _ _) (PyProof.Rows.tuple_addW2 l k vs vs' n n' none none #[] #[] (ne_true_of_eq_false hv) (ne_true_of_eq_false hw) (Tg hr hl hl')) ⟨ho,ho',hQ (m.frz hF _ _ q) _ (m.frz_nx hF q) (m.frz_rel hF q)⟩
  ·have hx:=isE hl' hw
   subst hx
   exact .leaf λQ hQ=>concat_meets ⟨_,ho,rfl⟩ ⟨_,ho',rfl⟩ noFill_tuple_add seq_tuple_add PySem.F.slot_tuple_add PySem.F.entry_tuple_add (PySem.F.args_tuple_add_2 _ _) (PyProof.Rows.tuple_addW1 l k vs vs' n n' none none #[] #[] (ne_true_of_eq_false hv) hw) ⟨ho,ho',hQ _ m.t (by rw[List.append_nil];exact⟨l,rfl,hg⟩)⟩
 ·have hx:=isE hl hv
  subst hx
  exact .leaf λQ hQ=>concat_meets ⟨_,ho,rfl⟩ ⟨_,ho',rfl⟩ noFill_tuple_add seq_tuple_add PySem.F.slot_tuple_add PySem.F.entry_tuple_add (PySem.F.args_tuple_add_2 _ _) (PyProof.Rows.tuple_addW0 l k vs vs' n n' none none #[] #[] hv) ⟨ho,ho',hQ _ m.t ⟨k,rfl,hg'⟩⟩
theorem u0(hF:Am F){xs ys:List PyData}(ha:Vw F m.g m.h (.d (.list xs)) ua)(hb:Vw F m.g m.h (.d (.list ys)) ub)(hr:room (xs++ys).length=true):Go A m (Cu F m.h) (some ((.d (.list (xs++ys)),.fr),σ)) (binaryOp .Add ua ub):=by
 obtain⟨_,l,vs,n,rfl,ho,al,hg⟩:=ha.lst hF m.inv
 obtain⟨_,k,vs',n',rfl,ho',al',hg'⟩:=hb.lst hF m.inv
 have q:El F m.g (Af "list" (vs++vs') 0) (.list (xs++ys)):=Iv (Dp hr) (by rw[Array.toList_append];exact al.append al')
 exactλQ hQ=>concat_meets ⟨_,ho,rfl⟩ ⟨_,ho',rfl⟩ noFill_list_add seq_list_add PySem.F.slot_list_add PySem.F.entry_list_add (PySem.F.args_list_add_2 _ _)
  (PyProof.Rows.list_addW l k vs vs' n n' none none #[] #[] (Tg hr (B6 al) (B6 al'))) ⟨ho,ho',hQ (m.push _) _ (Ar _) (m.own q trivial)⟩
theorem A52(hF:Am F){op:Operator}{va vb:V}(ha:Vw F m.g m.h va ua)(hb:Vw F m.g m.h vb ub):Go A m (Cu F m.h) (o1 (Ny op va vb) λr=>some (r,σ)) (binaryOp op ua ub):=by
 cases op
 case Add=>
  revert ha hb
  refine V.casesOn va (λa=>?_) λη η η=>trivial
  refine V.casesOn vb (λb=>?_) λη η η=>trivial
  cases a<;>first|exactλη η=>trivial|(cases b<;>first|exactλη η=>trivial|skip)
  ·exactλha hb=>(ha.scal rfl).elim λt e=>(hb.scal rfl).elim λt' e'=>e▸e'▸.leaf λη q=>PyProof.Rows.add_int (q _ _ ⟨_,rfl⟩)
  ·exactλha hb=>.vig λhr=>u0 hF ha hb hr
  ·exactλha hb=>.vig λhr=>tY hF ha hb hr
 case FloorDiv=>exact Ed ha hb λi j t t'=>.vig λhr=>have hr:=of_decide_eq_true hr;.leaf λη q=>PyProof.Rows.floordiv_int (λe=>by rw[e]at hr;exact absurd hr.1 (by decide)) (q _ _ ⟨_,rfl⟩) (.inl (PyProof.noPylong_small (by omega)))
 case Mod=>exact Ed ha hb λi j t t'=>.vig λhr=>.leaf λη q=>PyProof.Rows.mod_int' (λe=>by rw[e]at hr;exact absurd hr (by decide)) (q _ _ ⟨_,rfl⟩)
 case Mult=>exact Ed ha hb λi j t t'=>.vig λhr=>.leaf λη q=>PyProof.Rows.mul_int (q _ _ ⟨_,rfl⟩) (IntMulOk.of_left (P7 (of_decide_eq_true hr).1))
 case Pow=>
  refine Ed ha hb λi j t t'=>.vig λhr=>?_
  obtain⟨rfl,h1,h2⟩:=of_decide_eq_true hr
  exact .leaf λη q=>PyProof.Rows.pow_int_small h1 (by omega) (by decide) (q _ _ ⟨_,rfl⟩)
 case BitAnd=>exact Ed ha hb λi j t t'=>.leaf λη q=>PyProof.Rows.and_int (q _ _ ⟨_,rfl⟩)
 all_goals exact Ed ha hb λi j t t'=>trivial
theorem A39(hF:Am F){v:V}{u:Value}(r:Vw F m.g m.h v u):Go A m (Cu F m.h) (o1 (sQ v) λr=>some (r,σ)) (unaryOp .Not u):=by
 have h:=Ie (A:=A) hF r
 unfold sQ
 cases q:Qk v<;>rw[q]at h
 ·trivial
 ·exactλQ hQ=>not_value (h _ λm' η st e=>e▸hQ m' _ st rfl)
theorem A40{v:V}{u:Value}:Vw F m.g m.h v u→Go A m (Cu F m.h) (o1 (A17 v) λr=>some (r,σ)) (unaryOp .USub u):=by
 refine V.casesOn v (λa=>?_) λη η=>trivial
 cases a<;>first|exactλη=>trivial|skip
 exactλr=>(r.scal rfl).elim λt e=>e▸.leaf λη q=>PySem.P.neg_int (q _ _ ⟨_,rfl⟩)
end
end
section
open PySem PySem.W PySem.Calls PyProof.Rows
section
variable{F:Cc}{b:Shared}{σ:Sg}{A:Around}{m:Mo F b σ}{d:Nat}{uo ui:Value}{value slice:Expr}
theorem Go.oa{α β δ ε:Type}{R:Gh→Heap→α→β→Prop}{t:Sem β}{o:Option δ}{g:δ→Option ε}{f:ε→Option (α×Sg)}(h:Go A m R (o1 o λx=>o1 (g x) f) t):Go A m R (o1 (o1 o g) f) t:=
 match o,h with
 |none,_=>trivial
 |some _,h=>h
theorem Go.voi{α β δ:Type}{R:Gh→Heap→α→β→Prop}{t:Sem β}{c:Bool}{o:Option δ}{f:δ→Option (α×Sg)}(k:c=true→∀x,o=some x→Go A m R (f x) t):Go A m R (o1 (iB c o) f) t:=
 match c,k with
 |false,_=>trivial
 |true,k=>.vo (k rfl)
noncomputable abbrev Mh(e:Expr):Prop:=∀o u,subscripted e false o u=operate [o,u] (getItem o u)
theorem R0{i:Int}{n j:Nat}(h:wL i n=some j):(0≤i∧i<n∧i.toNat=j)∨(i<0∧0≤i+n∧(i+n).toNat=j):=by
 unfold wL at h
 cases h0:decide (0≤i)<;>rw[h0]at h
 ·cases h1:decide (0≤i+n)<;>rw[h1]at h
  ·exact Ao h
  ·exact .inr ⟨Int.not_le.mp (of_decide_eq_false h0),of_decide_eq_true h1,Cd h⟩
 ·cases h1:decide (i<n)<;>rw[h1]at h
  ·exact Ao h
  ·exact .inl ⟨of_decide_eq_true h0,of_decide_eq_true h1,Cd h⟩
theorem qN{i:Int}{n:Nat}(h:i<0)(h1:0≤i+n):seqIndex? i n=some (i+n).toNat:=by
 unfold seqIndex?
 exact(if_pos h)▸if_pos (Yx ⟨decide_eq_true h1,decide_eq_true (by omega)⟩)
theorem lZ(hs:Mh slice){a:Addr}{es:List ((Int⊕Str)×Value)}(hd:m.h.DictOf (Dx F) a es){kvs:List (PyData×V)}(al:Qf m.g kvs es){i:PyData}{k:Int⊕Str}(hk:It i=some k)(hi:Vw F m.g m.h (.d i) ui){v:V}(e:Cw i kvs=some v):
  Go A m (Cu F m.h) (some ((v,.cl),σ)) (subscriptTail value slice (.ref a) ui):=by
 have q:=Xc hk al
 rw[e]at q
 cases e2:valueAt es k with
 |none=>rw[e2]at q;exact False.elim q
 |some u=>
  rw[e2]at q
  exact .leaf λη hQ=>tail_any (Heap.DictOf.typeIs (knd:=Dx F) hd) PySem.F.slot_dict_getitem.lookup (wpAny_getItem_of (knd:=Dx F) (N2 hk hi) hd.mapOf e2 (hQ _ _ q)) (hs _ _)
noncomputable def oD(A:Around)(m:Mo F b σ)(value slice:Expr)(o:V)(i:PyData)(uo ui:Value):Prop:=Go A m (Cu F m.h) (o1 (o1 (B35 o i σ) λv=>some (v,.cl)) λr=>some (r,σ)) (subscriptTail value slice uo ui)
variable{j:Int}{i:PyData}{xs:List PyData}{kvs:List (PyData×PyData)}{n:Nat}
theorem jE{j n:Int}(h:0≤j+n): -n≤j:=Int.le_of_add_le_add_right (a:= -n) ((Int.add_left_neg n).symm▸h)
theorem R1{n j':Nat}(h:wL j n=some j')(hc:(n:Int) <2^63):j<2^63∧ -(2^63) <j:=(R0 h).elim (λq=>⟨Int.lt_trans q.2.1 hc,Int.lt_of_lt_of_le (by decide) q.1⟩) λq=>⟨Int.lt_trans q.1 (by decide),Int.lt_of_lt_of_le (Int.neg_lt_neg hc) (jE q.2.1)⟩
theorem gV(hF:Am F)(hs:Mh slice)(ho:Vw F m.g m.h (.d (.list xs)) uo)(hj:Vw F m.g m.h (.d (.int j)) ui):oD A m value slice (.d (.list xs)) (.int j) uo ui:=.oa (.oa (.oa (.vo λj' hp=>.vo λy hy=>by
 refine ho.lstE hF m.inv (P:=λuo=>Go A m (Cu F m.h) _ (subscriptTail value slice uo ui)) λa vs n hc h1 al η=>hj.intE (P:=λui=>Go A m (Cu F m.h) _ (subscriptTail value slice (.ref a) ui)) λt=>(Sm al hy).elim λu hu=>?_
 have hT:m.h.IsList a vs:=⟨_,h1,rfl,n,rfl⟩
 refine .leaf λη hQ=>tail_any (s:=m.s) hT.typeIs slot_list_getitem.lookup ((R0 hp).elim (λq=>?_) λq=>?_) (hs _ _)
 ·exact wpAny_getItem_list (s:=m.s) hT q.1 (R1 hp (Dc hc)).1 (q.2.2▸hu.1) (hQ _ m.t hu.2)
 ·exact wpAny_getItem_list_neg (s:=m.s) hT q.1 (B6 al▸jE q.2.1) (Int.le_of_lt (R1 hp (Dc hc)).2) (B6 al▸q.2.2.symm▸hu.1) (hQ _ m.t hu.2))))
theorem pZ(hF:Am F)(hA:Rm d A)(hs:Mh slice)(ho:Vw F m.g m.h (.d (.tuple xs)) uo)(hj:Vw F m.g m.h (.d (.int j)) ui):oD A m value slice (.d (.tuple xs)) (.int j) uo ui:=.oa (.oa (.oa (.vo λj' hp=>.vo λy hy=>by
 refine ho.tupE hF m.inv (P:=λuo=>Go A m (Cu F m.h) _ (subscriptTail value slice uo ui)) λa vs n hc h1 al η=>hj.intE (P:=λui=>Go A m (Cu F m.h) _ (subscriptTail value slice (.ref a) ui)) λt=>(Sm al hy).elim λu hu=>?_
 have hT:IsTup m.h a vs:=⟨_,h1,rfl,n,rfl⟩
 exact .leaf λη hQ=>tail_any (s:=m.s) hT.typeIs PyProof.Rows.slot_tuple_getitem.lookup (PyProof.Rows.getItem_tuple (s:=m.s) hT (Int.le_of_lt (R1 hp (Dc hc)).2) (R1 hp (Dc hc)).1 (B6 al▸(R0 hp).elim (λq=>q.2.2▸seqIndex_of q.1 q.2.1) λq=>q.2.2▸qN q.1 q.2.1) hu.1 (hQ _ m.t hu.2)) (hs _ _))))
theorem qD(hF:Am F)(hs:Mh slice)(ho:Vw F m.g m.h (.d (.dict kvs)) uo)(hi:Vw F m.g m.h (.d i) ui):oD A m value slice (.d (.dict kvs)) i uo ui:=.oa (.oa (.voi λhk y hy=>(Ra hk).elim λk hk=>
 ho.dctE hF m.inv (P:=λuo=>Go A m (Cu F m.h) _ (subscriptTail value slice uo ui)) λa es hd al η=>lZ hs hd al hk hi ((Yc ..).trans (congrArg (Option.map V.d) hy))))
theorem qC(hs:Mh slice){xs:List V}(e:σ[n]?=some (.lst xs))(hj:Vw F m.g m.h (.d (.int j)) ui):Go A m (Cu F m.h) (o1 (o1 (iB (decide (0≤j)) xs[j.toNat]?) λv=>some (v,.cl)) λr=>some (r,σ)) (subscriptTail value slice (.ref (m.g.p n)) ui):=.oa (.voi λhp y hy=>by
 refine hj.intE (P:=λui=>Go A m (Cu F m.h) _ (subscriptTail value slice (.ref (m.g.p n)) ui)) λt=>(m.inv.obj n _ e).2.elim λvs q=>q.elim λk q=>(Sm q.2 hy).elim λu hu=>?_
 have hT:m.h.IsList (m.g.p n) vs:=⟨_,q.1,rfl,k,rfl⟩
 have hp:=of_decide_eq_true hp
 exact .leaf λη hQ=>tail_any (s:=m.s) hT.typeIs slot_list_getitem.lookup (wpAny_getItem_list (s:=m.s) hT hp (Int.lt_trans ((Int.toNat_lt hp).mp (dU hy).1) (Dc (m.inv.obj n _ e).1)) hu.1 (hQ _ m.t hu.2)) (hs _ _))
theorem qB(hF:Am F)(hA:Rm d A)(hs:Mh slice){es:List (PyData×V)}(e:σ[n]?=some (.dct es))(hi:Vw F m.g m.h (.d i) ui):Go A m (Cu F m.h) (o1 (o1 (iB (D8 i) (Cw i es)) λv=>some (v,.cl)) λr=>some (r,σ)) (subscriptTail value slice (.ref (m.g.p n)) ui):=.oa (.voi λhr y hy=>
 Qr hF m.inv e hr hi (P:=λui=>Go A m (Cu F m.h) _ (subscriptTail value slice (.ref (m.g.p n)) ui)) λa xs his hD q=>by
  rw[hy]at q
  cases e2:atKey xs i with
  |none=>rw[e2]at q;exact False.elim q
  |some u=>
   rw[e2]at q
   exact .leaf λη hQ=>tail_any (s:=m.s) hD.typeIs PySem.F.slot_dict_getitem.lookup (wpAny_getItem_heap (knd:=Er F.prog F.w) (pL hA) his hD e2 (hQ _ _ q)) (hs _ _))
theorem qA(hs:Mh slice){es:List (PyData×V)}{t:Str}(e:σ[n]?=some (.tab es))(hi:Vw F m.g m.h (.d (.str t)) ui):Go A m (Cu F m.h) (o1 (o1 (Cw (.str t) es) λv=>some (v,.cl)) λr=>some (r,σ)) (subscriptTail value slice (.ref (m.g.p n)) ui):=
 .oa (.vo λy hy=>(m.inv.obj n _ e).2.elim λxs q=>lZ hs q.1 q.2 (k:=.inr t) rfl hi hy)
theorem B34(hF:Am F)(hA:Rm d A)(hs:Mh slice)(ho:Vw F m.g m.h (.o n) uo)(hi:Vw F m.g m.h (.d i) ui):oD A m value slice (.o n) i uo ui:=by
 refine ho.oE (P:=λuo=>oD A m value slice (.o n) i uo ui) λη=>?_
 show Go A m _ (o1 (o1 (match σ[n]? with|some (.lst xs)=>_|some (.dct es)=>_|some (.tab es)=>_|_=>none) _) _) _
 cases e:σ[n]? with
 |none=>exact trivial
 |some mo=>cases mo with
  |inst=>exact trivial
  |lst=>cases i<;>first|exact qC hs e hi|exact trivial
  |dct=>exact qB hF hA hs e hi
  |tab=>cases i<;>first|exact qA hs e hi|exact trivial
theorem A33(hF:Am F)(hA:Rm d A)(hs:Mh slice){o i:V}(ho:Vw F m.g m.h o uo)(hi:Vw F m.g m.h i ui):Go A m (Cu F m.h) (o1 (Hg o i σ) λr=>some (r,σ)) (subscriptTail value slice uo ui):=by
 cases i with
 |o=>cases o<;>exact trivial
 |d i=>cases o with
  |o=>exact B34 hF hA hs ho hi
  |d x=>cases x with
   |list=>cases i<;>first|exact gV hF hs ho hi|exact trivial
   |tuple=>cases i<;>first|exact pZ hF hA hs ho hi|exact trivial
   |dict=>exact qD hF hs ho hi
   |_=>exact trivial
end
end
section
open PySem PySem.W PySem.Calls PyProof.Rows
section
variable{prog:Program}{w:World}{A:Around}{E:Value→Shared→Prop}{s:Shared}
theorem Qn{v:Value}{k:Option Int}{Q:Option Int→Shared→Prop}(hv:IsPart v k)(h:Q k s):wpAny (model prog w) A (Builtin.Slice.slicePartIndex v) Q E s:=by
 induction hv with
 |none=>exact slicePart_none h
 |int i t=>exact slicePart_int h
theorem qZ(xs:Array Value)(k:Nat):((List.range k).filterMap λ(j:Nat)=>xs[((0:Int)+(j:Int)*1).toNat]?).toArray=(xs.toList.take k).toArray:=by
 have:=pick_run xs 0 k
 rw[List.filterMap_map]at this
 refine(congrArg (λf=>((List.range k).filterMap f).toArray) (funext λj=>?_)).trans (congrArg List.toArray this)
 show xs[((0:Int)+(j:Int)*1).toNat]?=xs[0+j]?
 rw[Int.zero_add,Int.mul_one,Nat.zero_add];rfl
theorem L5{t sl:Addr}{items:Array Value}{vu:Value}{i:Int}{Q:Value→Shared→Prop}(ht:IsTup s.heap t items)(hs:s.heap.IsSliceOf sl .none vu .none)(pu:IsPart vu (some i))(hlt:Jl i items.size<items.size)
  (h:Q (.ref s.heap.objs.size) {s with heap:=s.heap.push {cls:=.type "tuple",data:=.seq (items.toList.take (Jl i items.size)).toArray}}) (hsz:items.size≤sizeLine):wpAny (model prog w) A (getItem (.ref t) (.ref sl)) Q E s:=by
 refine Ac λXz hXz=>?_
 obtain⟨os,hos,hcs,hds⟩:=id hs
 refine hXz ?_
 unfold getItem
 try with_reducible refine wpAny_holding ?_
 first|refine wpAny_bind (wpAny_pure ?_)|skip
 refine wpAny_bind (wpAny_sequenceKey ht.typeIs (by decide) ?_)
 refine wpAny_bind (wpAny_callSpecial?_slot (name:=Str.ofString "__getitem__") ht.typeIs PyProof.Rows.slot_tuple_getitem
  (wpAny_call_entry PyProof.Rows.slot_tuple_getitem ht.typeIs PyProof.Rows.entry_tuple_getitem ?_ (PyProof.Rows.args_tuple_getitem _ _)))
 show wpAny _ _ (Builtin.Tuple.tupleItemsOf (.ref t) >>= _) _ _ s
 refine wpAny_bind (tupleItemsOf_ ht ?_)
 refine wpAny_bind (wpAny_typeOf (T:="slice") (show s.TypeIs (.ref sl) "slice" from⟨os,hos,hcs⟩) ?_)
 refine wpAny_bind (m:=Builtin.Slice.sliceApplied _ _) ?_
 refine wpAny_bind (wpAny_bind (wpAny_field hos hds (x:=.none) rfl (wpAny_bind (wpAny_field hos hds (x:=vu) rfl (wpAny_bind (wpAny_field hos hds (x:=.none) rfl (wpAny_pure ?_)))))))
 refine wpAny_bind (slicePart_none ?_)
 refine wpAny_bind (slicePart_none (wpAny_bind (Qn pu (wpAny_bind (wpAny_pure (wpAny_pure ?_))))))
 show wpAny _ _ (if((0:Int)==0&&(1:Int)==1&&(Jl i items.size)==items.size)=true then _ else _) _ _ s
 rw[if_neg (by rw[nS (Nat.ne_of_lt hlt)];decide)]
 have e:sizeOk (.seq (items.toList.take (Jl i items.size)).toArray):=Ag (Ag (List.length_take_le _ _) (Nat.le_of_lt hlt)) hsz
 refine wpAny_bind (m:=Builtin.Tuple.tupleExact _) ?_
 show wpAny _ _ (Builtin.Tuple.tupleExact ((List.range (Jl i items.size)).filterMap λ(j:Nat)=>items[((0:Int)+(j:Int)*1).toNat]?).toArray) _ _ s
 rw[qZ]
 exact wpAny_newObj_type (wpAny_pure ⟨_,rfl,wpAny_pure h⟩) e
end
section
variable{F:Cc}{b:Shared}{σ:Sg}{A:Around}{m:Mo F b σ}{uo ul uh us:Value}{value:Expr}{lo hi:Option Int}{a1 a2 a3:Option Expr}{p:Pos}
theorem Go.oai{α β δ:Type}{R:Gh→Heap→α→β→Prop}{t:Sem β}{c:Bool}{o:Option δ}{f:δ→Option (α×Sg)}(k:c=true→Go A m R (o1 o f) t):Go A m R (o1 (iB c o) f) t:=
 match c,k with
 |false,_=>trivial
 |true,k=>k rfl
noncomputable abbrev Na(ul uh us:Value):Obj:=⟨.type "slice",none,.fields #[ul,uh,us],#[]⟩
theorem A35(hF:Am F)(pl:IsPart ul lo)(ph:IsPart uh hi){v:V}(hv:Vw F m.g m.h v uo):
  Go A (m.push (Na ul uh .none)) (Cu F m.h) (o1 (kR v lo hi) λr=>some (r,σ)) (subscriptTail value (.Slice a1 a2 none p) uo (.ref m.h.objs.size)):=by
 have hsl:(m.push (Na ul uh .none)).h.IsSliceOf m.h.objs.size ul uh .none:=Heap.IsSliceOf.new ..
 have hv:=Vw.step (Ar (Na ul uh .none)) hv
 revert hv
 refine V.casesOn v (λx=>?_) λη η=>trivial
 refine PyData.casesOn x (λη=>trivial) (λη η=>trivial) (λη η=>trivial) (λη η=>trivial) (λxs hv=>?_) (λxs=>?_) λη η=>trivial
 ·obtain⟨hc,a,vs,n,rfl,ho,al,_⟩:=hv.lst hF (m.push (Na ul uh .none)).inv
  have hl:=B6 al
  have hT:(m.push (Na ul uh .none)).h.IsList a vs:=⟨_,ho,rfl,n,rfl⟩
  have hal:A6 (Bp m.g) (slc xs lo hi) (slicePick vs lo hi none).toList:=by rw[slicePick_plain,hl];exact(al.drop _).take _
  have hs:El F m.g (Af "list" (slicePick vs lo hi none) 0) (.list (slc xs lo hi)):=Iv (Ag (Ag (List.length_take_le' _ _) (by rw[List.length_drop];exact Nat.sub_le _ _)) hc) hal
  refineλQ hQ=>tail_any (s:=(m.push (Na ul uh .none)).s) hT.typeIs slot_list_getitem.lookup (wpAny_getItem_list_slice (s:=(m.push (Na ul uh .none)).s) hT hsl pl ph .none (by decide) ?_ (hl▸Ct hc)) rfl
  have o:=(m.push (Na ul uh .none)).own hs trivial
  exact hQ ((m.push _).push _) _ (Ar _) ⟨o.1,λb e=>(Ar (g:=m.g) (Na ul uh .none)).alive.fresh (o.2 b e)⟩
 ·induction pl with
  |int=>exactλη=>trivial
  |none=>
   induction ph with
   |none=>exactλη=>trivial
   |int i t=>
    intro hv
    refine .vig λhlt=>?_
    refine Ac λXz hXz=>?_
    obtain⟨hc,a,vs,n,rfl,ho,al,_⟩:=hv.tup hF (m.push (Na .none (.int i t) .none)).inv
    refine hXz ?_
    have hl:=B6 al
    have hT:IsTup (m.push (Na .none (.int i t) .none)).h a vs:=⟨_,ho,rfl,n,rfl⟩
    have hs:El F m.g (Af "tuple" (vs.toList.take (Jl i vs.size)).toArray 0) (.tuple (xs.take (Jl i xs.length))):=Iv (Ag (List.length_take_le' _ _) hc) (hl▸al.take _)
    exactλQ hQ=>tail_any (s:=(m.push (Na .none (.int i t) .none)).s) hT.typeIs PyProof.Rows.slot_tuple_getitem.lookup (L5 hT hsl (.int i t) (hl▸Vp hlt) (hQ ((m.push _).frz hF _ _ hs) _ ((m.push _).frz_nx hF hs) ((m.push _).frz_rel hF hs)) (hl▸Ct hc)) rfl
theorem A36(hF:Am F)(pl:IsPart ul lo)(ph:IsPart uh hi){e:Expr}{v st:V}(hv:Vw F m.g m.h v uo)(hs:Vw F m.g m.h st us):
  Go A (m.push (Na ul uh us)) (Cu F m.h) (o1 (A16 v st lo hi) λr=>some (r,σ)) (subscriptTail value (.Slice a1 a2 (some e) p) uo (.ref m.h.objs.size)):=by
 have hsl:(m.push (Na ul uh us)).h.IsSliceOf m.h.objs.size ul uh us:=Heap.IsSliceOf.new ..
 have hv:=Vw.step (Ar (Na ul uh us)) hv
 revert hv hs
 refine V.casesOn v (λx=>?_) λη η η=>trivial
 refine V.casesOn st (λy=>?_) λη η η=>trivial
 refine PyData.casesOn y (λη η=>trivial) (λη η η=>trivial) (λi=>?_) (λη η η=>trivial) (λη η η=>trivial) (λη η η=>trivial) λη η η=>trivial
 induction pl with
 |int=>exactλη η=>trivial
 |none=>
  induction ph with
  |int=>exactλη η=>trivial
  |none=>
   intro hs
   obtain⟨t,rfl⟩:=hs.scal rfl
   refine PyData.casesOn x (λη=>?_) (λη η=>?_) (λη η=>?_) (λη η=>?_) (λxs hv=>?_) (λxs η=>?_) λη η=>?_
   case refine_5=>
    refine .oai λhm=>?_
    have hm:=of_decide_eq_true hm
    subst hm
    refine Ac λXz hXz=>?_
    obtain⟨hc,a,vs,n,rfl,ho,al,_⟩:=hv.lst hF (m.push (Na .none .none (.int (-1) t))).inv
    refine hXz ?_
    have hl:=B6 al
    have hT:(m.push (Na .none .none (.int (-1) t))).h.IsList a vs:=⟨_,ho,rfl,n,rfl⟩
    have hal:A6 (Bp m.g) xs.reverse (slicePick vs none none (some (-1))).toList:=by rw[krv_pick];exact al.reverse
    have hs:El F m.g (Af "list" (slicePick vs none none (some (-1))) 0) (.list xs.reverse):=Iv (by rw[List.length_reverse];exact hc) hal
    refineλQ hQ=>tail_any (s:=(m.push (Na .none .none (.int (-1) t))).s) hT.typeIs slot_list_getitem.lookup (wpAny_getItem_list_slice (s:=(m.push (Na .none .none (.int (-1) t))).s) hT hsl .none .none (.int (-1) t) (by decide) ?_ (hl▸Ct hc)) rfl
    have o:=(m.push (Na .none .none (.int (-1) t))).own hs trivial
    exact hQ ((m.push _).push _) _ (Ar _) ⟨o.1,λb e=>(Ar (g:=m.g) (Na .none .none (.int (-1) t))).alive.fresh (o.2 b e)⟩
   all_goals exact .oai λη=>trivial
end
end
section
open PySem PySem.W PySem.Calls PyProof.Rows
theorem K5{l:List Bool}{x:Bool}:(∃i∈List.range l.length,l.getD i false=x)↔x∈l:=by
 constructor
 ·rintro⟨i,hi,rfl⟩
  rw[List.mem_range]at hi
  rw[List.getD_eq_getElem?_getD,List.getElem?_eq_getElem hi]
  exact List.getElem_mem hi
 ·intro h
  obtain⟨i,hi,rfl⟩:=List.mem_iff_getElem.mp h
  exact⟨i,En hi,by rw[List.getD_eq_getElem?_getD,List.getElem?_eq_getElem hi];rfl⟩
theorem yV(l:List Bool):((List.range l.length).all λi=>l.getD i false)=l.all id:=by
 rw[Bool.eq_iff_iff,List.all_eq_true,List.all_eq_true]
 exact⟨λh x hx=>(K5.mpr hx).elim λi q=>q.2▸h i q.1,λh i hi=>h _ (K5.mp ⟨i,hi,rfl⟩)⟩
theorem Wy(l:List Bool):((List.range l.length).any λi=>l.getD i false)=l.any id:=by
 rw[Bool.eq_iff_iff,List.any_eq_true,List.any_eq_true]
 exact⟨λ⟨i,hi,e⟩=>⟨_,K5.mp ⟨i,hi,rfl⟩,e⟩,λ⟨x,hx,e⟩=>(K5.mpr hx).elim λi q=>⟨i,q.1,q.2.trans e⟩⟩
theorem Ux(i:Int)(l:List Int):(ins i l).Perm (i::l):=by
 induction l with
 |nil=>exact .refl _
 |cons j r ih=>
  show(match decide (j≤i)with|true=>j::ins i r|false=>i::j::r).Perm _
  cases decide (j≤i)
  ·exact .refl _
  ·exact(ih.cons j).trans (.swap i j r)
theorem Xx(i:Int)(l:List Int):l.Pairwise (· ≤·)→(ins i l).Pairwise (· ≤·):=by
 induction l with
 |nil=>exactλη=>List.pairwise_singleton _ _
 |cons j r ih=>
  intro h
  have h':=List.pairwise_cons.mp h
  show(match decide (j≤i)with|true=>j::ins i r|false=>i::j::r).Pairwise _
  cases e:decide (j≤i)
  ·have e:=Int.le_of_lt (Int.not_le.mp (of_decide_eq_false e))
   exact List.pairwise_cons.mpr ⟨λa ha=>(Mw ha).elim (λq=>q▸e) λq=>Int.le_trans e (h'.1 a q),h⟩
  ·exact List.pairwise_cons.mpr ⟨λa ha=>(Mw ((Ux i r).mem_iff.mp ha)).elim (λq=>q▸of_decide_eq_true e) (h'.1 a),ih h'.2⟩
theorem J5:∀l:List Int,(Q1 l).Perm l
 |[]=>.refl _
 |i::r=>(Ux i _).trans ((J5 r).cons i)
theorem K2:∀l:List Int,(Q1 l).Pairwise (· ≤·)
 |[]=>.nil
 |i::r=>Xx i _ (K2 r)
theorem Xd{a l:List Int}(hp:a.Perm l)(hs:a.Pairwise (· ≤·)):a=Q1 l.reverse:=
 (hp.trans ((List.reverse_perm l).symm.trans (J5 _).symm)).eq_of_pairwise (λη η η η h1 h2=>Int.le_antisymm h1 h2) hs (K2 _)
theorem vI{g:Gh}{us:List Value}{l:List Int}(h:IntsAre us l):A6 (Bp g) (l.map PyData.int) us:=by
 induction h with
 |nil=>exact .nil
 |cons n t _ ih=>exact .cons ⟨t,rfl⟩ ih
section
variable{F:Cc}{g:Gh}
theorem Q9{xs:List PyData}{us:List Value}(al:A6 (Bp g) xs us):∀{l:List Bool},Fu xs=some l→us=l.map Value.bool:=by
 induction al with
 |nil=>intro l h;cases h;rfl
 | @cons x u xs us r _ ih=>
  intro l h
  cases x<;>try exact Ao h
  replace h:(match Fu xs with|some l=>some (_::l)|none=>none)=some l:=h
  cases e:Fu xs<;>rw[e]at h
  ·exact Ao h
  ·simp only[← Cd h,show u=_ from r,ih e];rfl
theorem lA{xs:List PyData}{us:List Value}(al:A6 (Bp g) xs us):∀{l:List Int},K3 xs=some l→IntsAre us l∧l.length=xs.length:=by
 induction al with
 |nil=>intro l h;cases h;exact⟨.nil,rfl⟩
 | @cons x u xs us r _ ih=>
  intro l h
  cases x<;>try exact Ao h
  replace h:(match K3 xs with|some l=>some (_::l)|none=>none)=some l:=h
  cases e:K3 xs<;>rw[e]at h
  ·exact Ao h
  ·obtain⟨i1,i2⟩:=ih e
   exact(Cd h)▸Exists.elim r λt q=>q▸⟨.cons _ t i1,congrArg (· +1) i2⟩
theorem Ip{A:Around}{l:List Bool}:TruthOf F.prog F.w A (λi v=>(l.map Value.bool).toArray[i]?=some v) (λi=>l.getD i false):=by
 intro i v s Q E h hQ
 simp only[List.getElem?_toArray,List.getElem?_map]at h
 obtain⟨b,hb,rfl⟩:=rH h
 replace hQ:Q (l.getD i false) s:=hQ
 rw[List.getD_eq_getElem?_getD,hb]at hQ
 exact wpAny_truthy_bool hQ
end
section
variable{F:Cc}{b:Shared}{σ:Sg}{A:Around}{m:Mo F b σ}{d:Nat}{u:Value}
noncomputable abbrev Mo.gro(m:Mo F b σ)(h':Heap)(t:Nat)(k:∀a o,m.h.get? a=some o→h'.get? a=some o):Mo F b σ:={m with h:=h',t:=t,inv:=m.inv.keep k}
theorem I4{h:Heap}{a:Addr}{h':Heap}(hk:∀b o,b∉[h.objs.size]→(h.push {cls:=.type "list_iterator",data:=.fields #[.ref a,.int 0 0]}).get? b=some o→h'.get? b=some o):
  ∀b o,h.get? b=some o→h'.get? b=some o:=λb o e=>hk b o (λq=>Fc (Ap h) (Hd q▸e)) (Dh _ b o e)
theorem Vw.isl(hF:Am F){xs:List PyData}(r:Vw F m.g m.h (.d (.list xs)) u):∃a vs,u=.ref a∧m.h.IsList a vs∧A6 (Bp m.g) xs vs.toList∧xs.length≤I1:=by
 refine Ac λXz hXz=>?_
 obtain⟨hc,a,vs,n,e,ho,al,_⟩:=r.lst hF m.inv
 refine hXz ?_
 exact⟨a,vs,e,⟨_,ho,rfl,n,rfl⟩,al,hc⟩
theorem A41(hF:Am F){v:V}:Vw F m.g m.h v u→Go A m (Cu F m.h) (o1 (B75 v σ) λr=>some (r,σ)) (call (.builtin "len") [u]):=by
 refine V.casesOn v (λx=>?_) λn hu=>?_
 ·refine PyData.casesOn x (λη=>trivial) (λη η=>trivial) (λη η=>trivial) (λη η=>trivial) (λxs hu=>?_) (λxs hu=>?_) λkvs hu=>?_
  ·refine Ac λXz hXz=>?_
   obtain⟨a,vs,rfl,hl,al,hc⟩:=hu.isl hF
   refine hXz ?_
   exact .leaf λη q=>call_len_list hl (by rw[B6 al];exact Dc hc) (q _ _ ⟨_,by rw[B6 al]⟩)
  ·refine Ac λXz hXz=>?_
   obtain⟨hc,a,vs,n,rfl,ho,al,_⟩:=hu.tup hF m.inv
   refine hXz ?_
   exact .leaf λη q=>len_tuple (items:=vs) ⟨_,ho,rfl,n,rfl⟩ (by rw[B6 al];exact Dc hc) (q _ _ ⟨_,by rw[B6 al]⟩)
  ·obtain⟨hc,a,es,rfl,hd,al,hs⟩:=hu.dct hF m.inv
   have hl:es.length=kvs.length:=al.length.trans (List.length_map ..)
   exact .leaf λη q=>call_len_dict (knd:=Dx F) hs hd (by rw[hl];exact Dc hc) (q _ _ ⟨_,by rw[hl]⟩)
 ·obtain⟨hn,rfl⟩:=hu.o
  show Go A m _ (o1 (match σ[n]? with|some (.lst xs)=>_|_=>none) _) _
  cases e:σ[n]? with
  |none=>trivial
  |some mo=>
   cases mo with
   |lst xs=>
    refine Ac λXz hXz=>?_
    obtain⟨hc,vs,k,ho,al⟩:=m.inv.obj n _ e
    refine hXz ?_
    exact .leaf λη q=>call_len_list (items:=vs) ⟨_,ho,rfl,k,rfl⟩ (by rw[B6 al];exact Dc hc) (q _ _ ⟨_,by rw[B6 al]⟩)
   |_=>trivial
theorem Go.lst{α β:Type}{R:Gh→Heap→α→β→Prop}{t:Value→Sem β}(hF:Am F){v:V}{f:List PyData→Option (α×Sg)}(hu:Vw F m.g m.h v u)
  (k:∀xs a vs,m.h.IsList a vs→A6 (Bp m.g) xs vs.toList→xs.length≤I1→Go A m R (f xs) (t (.ref a))):Go A m R (o1 (sF v) f) (t u):=by
 revert hu
 refine V.casesOn v (λx=>?_) λη η=>trivial
 refine PyData.casesOn x (λη=>trivial) (λη η=>trivial) (λη η=>trivial) (λη η=>trivial) (λxs hu=>?_) (λη η=>trivial) λη η=>trivial
 refine Ac λXz hXz=>?_
 obtain⟨a,vs,rfl,hl,al,hc⟩:=hu.isl hF
 refine hXz ?_
 exact k xs a vs hl al hc
theorem A56(hF:Am F)(hA:Rm d A){v:V}(hu:Vw F m.g m.h v u):Go A m (Cu F m.h) (o1 (blV .all v σ) λr=>some (r,σ)) (call (.builtin "all") [u]):=
 .oa (.lst (t:=λu=>call (.builtin "all") [u]) hF hu λxs a vs hl al hc=>.oa (.vo λl e=>λQ hQ=>by
  have e:=Q9 al e
  obtain⟨vs⟩:=vs
  cases e
  have hne:a≠m.h.objs.size:=hl.elim λo q=>Nat.ne_of_lt (Heap.lt_size q.1)
  refine call_all_walk (wpAny_pyIter_list hl ⟨_,_,_,_,_,_,_,rfl,Walks.list (A:=A.in1) hA.handled m.h.objs.size a hne _,⟨⟨_,Heap.get?_push_size _ rfl,rfl,rfl⟩,hl.push _⟩,Ip (l:=l),λh' tk hk=>?_⟩)
  have:=hQ (m.gro h' tk (I4 hk)) _ (.keeps (I4 hk)) rfl
  rw[← yV l]at this
  simpa using this))
theorem A55(hF:Am F)(hA:Rm d A){v:V}(hu:Vw F m.g m.h v u):Go A m (Cu F m.h) (o1 (blV .any v σ) λr=>some (r,σ)) (call (.builtin "any") [u]):=
 .oa (.lst (t:=λu=>call (.builtin "any") [u]) hF hu λxs a vs hl al hc=>.oa (.vo λl e=>λQ hQ=>by
  have e:=Q9 al e
  obtain⟨vs⟩:=vs
  cases e
  have hne:a≠m.h.objs.size:=hl.elim λo q=>Nat.ne_of_lt (Heap.lt_size q.1)
  refine call_any_walk (wpAny_pyIter_list hl ⟨_,_,_,_,_,_,_,rfl,Walks.list (A:=A.in1) hA.handled m.h.objs.size a hne _,⟨⟨_,Heap.get?_push_size _ rfl,rfl,rfl⟩,hl.push _⟩,Ip (l:=l),λh' tk hk=>?_⟩)
  have:=hQ (m.gro h' tk (I4 hk)) _ (.keeps (I4 hk)) rfl
  rw[← Wy l]at this
  simpa using this))
theorem A32(hF:Am F){v:V}(hu:Vw F m.g m.h v u):Go A m (Cu F m.h) (o1 (blV .tup v σ) λr=>some (r,σ)) (call (.type "tuple") [u]):=
 .oa (.lst (t:=λu=>call (.type "tuple") [u]) hF hu λxs a vs hl al hc Q hQ=>call_tuple_list hl (λh' hk=>
  have hs:El F m.g (Af "tuple" vs 0) (.tuple xs):=Iv hc al
  hQ ((m.gro h' m.t hk).frz hF _ _ hs) _ (t0 (.keeps hk) ((m.gro h' m.t hk).frz_nx hF hs)) ((m.gro h' m.t hk).frz_rel hF hs)) (by rw[B6 al];exact Ct hc))
theorem vA:0<I1:=Nat.lt_of_lt_of_eq (m:=8388608) (Nat.zero_lt_succ _) rfl
theorem rF{α:Type}(x:α):[x].length≤I1:=by rw[List.length_singleton];exact vA
theorem aT{g:Gh}{x:PyData}{k:Int⊕Str}{v:Value}(hk:It x=some k)(h:(Dx F).is k v=true):Bp g x v:=by
 cases x<;>cases hk
 ·exact aI h
 ·exact jN h
set_option tactic.hygienic true in
set_option backward.match.sparseCases true in
theorem qJ{s:Shared}{xs ys:List PyData}(hy:srt xs=some ys){vs:List Value}(al:A6 (Bp m.g) xs vs){h1:Heap}{D:Addr}{n:Nat}{t1:Nat}(hD:h1.get? D=some (seqObj "list" vs.toArray n)){Q:Value→Shared→Prop}
  (hQ:∀(out:Array Value) k,A6 (Bp m.g) ys out.toList→ys.length≤I1→(sortedHeap h1 D vs out).get? D=some (seqObj "list" out k)→Q .none {s with heap:=sortedHeap h1 D vs out,toks:=t1}):
  wpAny F.M A (call (.builtin "list.sort") [.ref D]) Q ff {s with heap:=h1,toks:=t1}:=by
 replace hy:(match K3 xs with|some l=>_|none=>_)=some ys:=hy
 cases e:K3 xs with
 |some l=>
  rw[e]at hy
  have hl:=lA al e
  replace hy:(match Nat.ble l.length 60 with|true=>_|false=>none)=some ys:=hy
  cases h60:Nat.ble l.length 60<;>rw[h60]at hy
  ·exact Ao hy
  ·cases hy
   have h60:=Nat.le_of_ble_eq_true h60
   refine wpAny_call_entry slot_list_sort (s:={s with heap:=h1,toks:=t1}) ⟨_,hD,rfl⟩ entry_list_sort (list_sort_tree hD hl.1 (by simp only[al.length,← hl.2];exact Nat.lt_of_le_of_lt h60 (by decide)) λout ns' a1 a2 a3=>⟨.none,rfl,?_⟩) (args_list_sort _)
   have ez:=Xd a2 a3
   exact(sortedHeap_at (out:=out) hD).elim λk hk=>hQ out k (ez▸vI a1) (by simp only[List.length_map,(J5 _).length_eq,List.length_reverse];exact Ag h60 (by decide)) hk
 |none=>
  rw[e]at hy
  refine Ac λXz hXz=>?_
  obtain _|⟨x,_|_⟩:=xs
  ·refine hXz ?_
   exact Ao hy
  ·refine hXz ?_
   cases x<;>try exact Ao hy
   rename_i x
   cases hy
   obtain _|⟨r,al⟩:=al
   cases al
   obtain⟨t,rfl⟩:=r
   refine wpAny_call_entry slot_list_sort (s:={s with heap:=h1,toks:=t1}) ⟨_,hD,rfl⟩ entry_list_sort (list_sort_treeK strKind_oneLt hD (StrsAre.keysOf (.cons _ t .nil)) (λv₁ v₂ rest e=>by simp at e) (by simp) λst' hp hs=>⟨.none,rfl,?_⟩) (args_list_sort _)
   have e:((arrOf st').map (·.2)).toList=[Value.str x t]:=by
    have hp1:(arrOf st').toList=[(Value.str x t,Value.str x t)]:=List.perm_singleton.mp ((Array.perm_iff_toList_perm.mp hp).trans (List.Perm.of_eq (pairsOf_toList _)))
    simp only[Array.toList_map,hp1];rfl
   have al1:A6 (Bp m.g) [.str x] [Value.str x t]:=.one ⟨t,rfl⟩
   rw[← e]at al1
   obtain⟨k,hk⟩:=sortedHeap_at (out:=(arrOf st').map (·.2)) hD
   have:=hQ ((arrOf st').map (·.2)) k al1
   have:=this (rF _)
   exact this hk
  ·refine hXz ?_
   cases x<;>exact Ao hy
theorem kN{kvs:List (PyData×V)}{es:List ((Int⊕Str)×Value)}(al:Qf m.g kvs es):∀{vs:List Value},vs.length=es.length→(∀(j:Nat)(v:Value),vs[j]?=some v→∃k x,es[j]?=some (k,x)∧(Dx F).is k v=true)→A6 (Bp m.g) (kvs.map (·.1)) vs:=by
 induction al with
 |nil=>exactλhl η=>List.length_eq_zero_iff.mp hl▸.nil
 | @cons a b as bs h1 _ ih=>
  intro vs hl hv
  cases vs with
  |nil=>exact nomatch hl
  |cons v vs=>
   refine .cons ?_ (ih (Nat.succ.inj hl) λj v' e=>hv (j+1) v' e)
   obtain⟨k,x,e1,e2⟩:=hv 0 v rfl
   cases e1
   exact aT h1.1 e2
theorem A34(hF:Am F)(hA:Rm d A){v:V}(hu:Vw F m.g m.h v u):Go A m (Cu F m.h) (o1 (blV .srt v σ) λr=>some (r,σ)) (call (.builtin "sorted") [u]):=by
 have key:∀{xs:List PyData},xs.length≤I1→(∀(R:List Value→Shared→Prop),(∀h' tk vs',(∀b o,m.h.get? b=some o→h'.get? b=some o)→A6 (Bp m.g) xs vs'→R vs' {b with heap:=h',toks:=tk})→wpAny F.M A.in1 (collect u) R ff m.s)→
   Go A m (Cu F m.h) (o1 (o1 (srt xs) λys=>some (V.d (.list ys),Kd.fr)) λr=>some (r,σ)) (call (.builtin "sorted") [u]):=λ{xs} hc hcol=>.oa (.vo λys hy Q hQ=>by
  refine call_function_entry kind_sorted plain_sorted entry_sorted (args_sorted1 _) ?_
  refine wpAny_bind (m:=checkCount "sorted" 1 1 _) (wpAny_pure (wpAny_bind (hcol _ λh' tk vs' hk al'=>?_)))
  refine wpAny_bind (wpAny_newList ?_ (al'.length▸Ct hc))
  have hD:(h'.push {cls:=.type "list",data:=.seq vs'.toArray}).get? h'.objs.size=some (seqObj "list" vs'.toArray 0):=Heap.get?_push_size _ rfl
  have hfr:m.h.get? h'.objs.size=none:=vV.fresh (λb o e=>⟨o,hk b o e⟩) (Ap h')
  refine wpAny_bind (wpAny_holding (qJ (m:=m) hy al' hD λout k ho hl hm=>wpAny_pure ⟨_,rfl,?_⟩))
  have hk':∀b o,m.h.get? b=some o→(sortedHeap (h'.push {cls:=.type "list",data:=.seq vs'.toArray}) h'.objs.size vs' out).get? b=some o:=λb o e=>by
   have e':=hk b o e
   have hlt:=Heap.lt_size e'
   rw[sortedHeap_old (Nat.ne_of_lt hlt) (by rw[Heap.size_push];exact Nat.lt_succ_of_lt hlt)]
   exact Heap.get?_push_of_some _ e'
  exact hQ (m.gro _ tk hk') _ (.keeps hk') ⟨⟨_,_,rfl,hm,⟨⟨hl,out,k,rfl,ho⟩,trivial⟩,.new m.inv hfr ⟨_,hm⟩⟩,λa e=>Value.ref.inj e▸hfr⟩)
 revert hu
 refine V.casesOn v (λx=>?_) λη η=>trivial
 refine PyData.casesOn x (λη=>trivial) (λη η=>trivial) (λη η=>trivial) (λη η=>trivial) (λxs hu=>?_) (λη η=>trivial) λkvs hu=>?_
 ·refine Ac λXz hXz=>?_
  obtain⟨a,vs,rfl,hl,al,hc⟩:=hu.isl hF
  refine hXz ?_
  exact key hc λR hR=>collect_list (vs:=vs.toList) (by simpa using hl) (hR _ m.t vs.toList (λb o e=>by rw[Heap.get?_update_ne _ _ _ _ (Nat.ne_of_lt (Heap.lt_size e))];exact Heap.get?_push_of_some _ e) al) (by rw[al.length];exact Ct hc)
 ·refine Ac λXz hXz=>?_
  obtain⟨hc,a,es,rfl,⟨o,es',ep,hat⟩,al,hs⟩:=hu.dct hF m.inv
  refine hXz ?_
  have hl:es.length=kvs.length:=al.length.trans (List.length_map ..)
  refine key (xs:=kvs.map (·.1)) (by rw[List.length_map];exact hc) λR hR=>kdu_collect (A:=A.in1) (kdl_dict (knd:=Dx F) (kvs:=es) (ep:=ep) hs) hA.handled ⟨o,es',hat⟩ (by rw[hl];exact Ct hc) λh' tk acc hk hacc=>hR h' tk acc.toList hk ?_
  have:=kN (F:=F) (m:=m) al (vs:=acc.toList) (by rw[Array.length_toList];exact hacc.1) λj v e=>hacc.2 j v (by rw[← Array.getElem?_toList];exact e)
  rwa [dV,List.map_map]at this
theorem A51(hF:Am F)(hA:Rm d A){k:Bl}{v:V}(hu:Vw F m.g m.h v u):Go A m (Cu F m.h) (o1 (blV k v σ) λr=>some (r,σ)) (call (Sa k) [u]):=
 match k with
 |.len=>A41 hF hu
 |.all=>A56 hF hA hu
 |.any=>A55 hF hA hu
 |.tup=>A32 hF hu
 |.srt=>A34 hF hA hu
end
end
section
open PySem PySem.W PySem.Calls PyProof.Rows
section
variable{prog:Program}{w:World}{K:Type} [DecidableEq K]{knd:PySem.KeyKind prog w K}{A:Around}{E:Value→Shared→Prop}{s:Shared}
theorem S4{P:Prop}{h:Heap}{d:Addr}{kvs:List (K×Value)}(x:h.DictOf knd d kvs)(k:∀o es ep,h.get? d=some o→o.ExactDict→o.data=.dict es ep→KeysOf knd es→Pairs knd es.toList kvs→(kvs.map (·.1)).Nodup→P):P:=
 x.elim λo q=>q.elim λes q=>q.elim λep q=>k o es ep q.1 q.2.1 q.2.2.1 q.2.2.2.1 q.2.2.2.2.1 q.2.2.2.2.2
theorem qV{d:Addr}{kvs:List (K×Value)}{k:K}{key v:Value}{Q:Unit→Shared→Prop}(hkey:knd.is k key=true)(hm:s.heap.DictOf knd d kvs)(hnew:k∉kvs.map (·.1))
  (hQ:∀h',h'.DictOf knd d (kvs++[(k,v)])→Heap.SameBut d s.heap h'→Q () {s with heap:=h'}) (hsz:kvs.length≤sizeLine):
  wpAny (model prog w) A (dictPut d (knd.hash k) key v) Q E s:=by
 refine S4 hm λo es ep ho hc hd hk hp hn=>wpAny_bind (wpAny_dictFind_of hkey ho hd hk ?_)
 have hno:(es.findIdx? λe=>knd.is k e.key)=none:=by
  have e:=(hp.findIdx k).trans (List.findIdx?_eq_none_iff.mpr λx hx=>decide_eq_false λe=>hnew (List.mem_map.mpr ⟨x,hx,e⟩))
  obtain⟨l⟩:=es
  rwa [List.findIdx?_toArray]
 rw[hno]
 refine wpAny_updateDictKeys (hz:=Ag (Nat.le_of_eq hp.length) hsz) ho hd (hQ _ ⟨_,_,ep+1,Heap.get?_update_self _ ho (Obj.isFreed_of_dict (Obj.data_mapDictKeys hd _)),hc.mapDictKeys _,Obj.data_mapDictKeys hd _,hk.push hkey _,?_,?_⟩ (Heap.SameBut.update ..))
 ·rw[Array.toList_push];exact hp.append hkey (knd.hash k) v
 ·rw[List.map_append]
  exact List.nodup_append.mpr ⟨hn,List.pairwise_singleton _ _,λa ha b hb e=>hnew (show k∈_ from(e.trans (Hd hb):a=k)▸ha)⟩
theorem X6{β:Type}{M:Model}{f:Nat→β→Sem (ForInStep β)}{I:Nat→Shared→Prop}{Q:β→Shared→Prop}{N:Nat}
  (st:∀j b s,j<N→I j s→wpAny M A (f j b) (λr s'=>∃b',r=.yield b'∧I (j+1) s') E s) (fin:∀b s,I N s→Q b s) (n:Nat):∀i,i+n=N→∀b s,I i s→wpAny M A (forIn (List.range' i n) b f) Q E s:=by
 induction n with
 |zero=>exactλi e b s h=>wpAny_pure (fin b s (e▸h))
 |succ n ih=>
  intro i e b s h
  rw[List.range'_succ,List.forIn_cons]
  exact wpAny_bind (wpAny_mono (st i b s (e▸Nat.lt_add_of_pos_right (Nat.succ_pos n)) h) (λr s' q=>q.elim λb' q=>q.1.symm▸ih (i+1) ((Nat.succ_add_eq_add_succ i n).trans e) b' s' q.2) λη η z=>z)
theorem rB{P:Prop}{eso:Array DictEntry}{kvs more:List (K×Value)}(hko:KeysOf knd eso)(hpo:Pairs knd eso.toList more)(hn:((kvs++more).map (·.1)).Nodup){j:Nat}(hj:j<eso.size)
  (H:∀e k v,eso[j]?=some e→knd.is k e.key=true→e.hash=knd.hash k→e.val=v→more.take (j+1)=more.take j++[(k,v)]→k∉(kvs++more.take j).map (·.1)→P):P:=by
 have hm:j<more.length:=Nat.lt_of_lt_of_eq hj hpo.length
 have em:=List.getElem?_eq_getElem hm
 have ea:=Array.getElem?_eq_getElem hj
 have q:=hpo.get? (k:=more[j].1) (v:=more[j].2) ((Array.getElem?_toList ..).trans ea) em
 have tk:more.take (j+1)=more.take j++[more[j]]:=List.take_add_one.trans (congrArg (λo:Option (K×Value)=>more.take j++o.toList) em)
 refine(hko eso[j] (Array.getElem_mem hj)).elim λk' z=>H _ _ _ ea q.1 (knd.inj _ _ _ z.1 q.1▸z.2) q.2 tk λm=>?_
 have e:(kvs++more.take j)++(more[j]::more.drop (j+1))=kvs++more:=(List.append_assoc ..).trans (congrArg (kvs++·) ((congrArg (more.take j++·) (List.drop_eq_getElem_cons hm).symm).trans (List.take_append_drop j more)))
 rw[← e,List.map_append]at hn
 exact(List.nodup_append.mp hn).2.2 _ m _ (.head _) rfl
noncomputable def D09(knd:PySem.KeyKind prog w K)(d:Addr)(s:Shared)(kvs more:List (K×Value))(j:Nat)(s':Shared):Prop:=∃h':Heap,s'={s with heap:=h'}∧h'.DictOf knd d (kvs++more.take j)∧Heap.SameBut d s.heap h'
theorem dD{d a:Addr}{kvs more:List (K×Value)}{Q:Unit→Shared→Prop}(hda:d≠a)(hs:(a==sysModules)=false)(h0:kvs.length≠0)
  (hd:s.heap.DictOf knd d kvs) (ho:s.heap.DictOf knd a more) (hn:((kvs++more).map (·.1)).Nodup) (hsz:kvs.length+more.length≤sizeLine)
  (hQ:∀h',h'.DictOf knd d (kvs++more)→Heap.SameBut d s.heap h'→Q () {s with heap:=h'}):
  wpAny (model prog w) A (mergeMapping d (.ref a) false) Q E s:=by
 refine S4 hd λod esd epd hod η hdd η hpd η=>S4 ho λoo eso epo hoo η hdo' hko hpo η=>?_
 unfold mergeMapping
 refine wpAny_bind (wpAny_isInstance ho.typeIs isSubtype_dict_dict (wpAny_bind (wpAny_specialOf ho.typeIs PySem.F.slot_dict_iter.lookup (wpAny_bind (wpAny_pure ?_)))))
 show wpAny _ _ (if(a==sysModules)=true then _ else _) _ _ _
 rw[if_neg (ne_true_of_eq_false hs)]
 refine wpAny_bind (wpAny_dictEntries hod hdd ?_)
 rw[if_neg (ne_true_of_eq_false (oT λq=>h0 (hpd.length.symm.trans (Array.isEmpty_iff_size_eq_zero.mp q))))]
 refine wpAny_bind (wpAny_dictEntries hoo hdo' (wpAny_bind (wpAny_dictEpoch hoo hdo' (wpAny_bind ?_))))
 rw[List.range_eq_range']
 refine X6 (I:=D09 knd d s kvs more) (N:=eso.size) (λj b s' hj I=>?_) (λb s' I=>I.elim λh' q=>?_) _ 0 (Nat.zero_add _) _ _ ⟨s.heap,rfl,(List.append_nil kvs).symm▸hd,.refl _ _⟩
 ·refine rB hko hpo hn hj λe k v he hk hh hv ht hnew=>I.elim λh' q=>?_
  have ha:∀{h'':Heap},Heap.SameBut d s.heap h''→h''.get? a=some oo:=λz=>(z.2 a hda.symm).trans hoo
  rw[q.1]
  refine wpAny_bind (wpAny_dictEntries (ha q.2.2) hdo' ?_)
  rw[he]
  refine wpAny_bind (wpAny_holding (hh▸qV hk q.2.1 hnew (λh'' hd'' hs''=>wpAny_bind (wpAny_dictEpoch (ha (q.2.2.trans hs'')) hdo' ?_)) (Ag (Nat.le_of_eq List.length_append) (Ag (Nat.add_le_add_left (List.length_take_le' _ _) _) hsz))))
  rw[if_neg (by simp)]
  exact wpAny_pure ⟨_,rfl,h'',rfl,ht▸hv▸List.append_assoc ..▸hd'',q.2.2.trans hs''⟩
 ·exact wpAny_pure (q.1▸hQ h' (List.take_of_length_le (Nat.le_of_eq hpo.length.symm)▸q.2.1) q.2.2)
end
noncomputable abbrev Z4:=Sem Value×Sem Value
noncomputable def Xb:List (Option Expr)→List Expr→Env→Pos→List Z4
 |some k::ks,v::vs,env,pos=>(eval k env,do let x ← eval v env;standAt pos;pure x)::Xb ks vs env pos
 |_,_,_,_=>[]
noncomputable abbrev x3(p:Z4):Option (Sem Value)×Sem Value:=(some p.1,p.2)
theorem A57(f:(Option (Sem Value)×Sem Value)→(Option Addr×List Z4)→Sem (ForInStep (Option Addr×List Z4)))(main:Option Addr)
  (hf:∀(p:Z4)(run:List Z4),run.length+1<17→f (x3 p) (main,run)=pure (.yield (main,run++[p]))) (rest:List (Option (Sem Value)×Sem Value)):
  ∀(items run:List Z4),run.length+items.length<17→forIn (items.map x3++rest) (main,run) f=forIn rest (main,run++items) f
 |[],run,_=>(List.append_nil run).symm▸rfl
 |p::r,run,h=>by
  simp only[List.map_cons,List.cons_append,List.forIn_cons,hf p run (Nat.lt_of_le_of_lt (Nat.add_le_add_left (Nat.succ_pos _) _) h),pure_bind]
  have:=A57 f main hf rest r (run++[p]) (by rw[List.length_append];exact Nat.lt_of_le_of_lt (Nat.le_of_eq (Nat.succ_add_eq_add_succ _ _)) h)
  rwa [List.append_assoc]at this
theorem mY{prog:Program}{w:World}{A:Around}{s:Shared}{p1 p2:List Z4}{last:Z4}{Q:Value→Shared→Prop}(h1:p1.length=16)(h2:p2.length≠0)(h3:p2.length≤15)
  (h:wpAny (model prog w) A (subDict (p1++[last])) (λd s1=>wpAny (model prog w) A (subDict p2) (λsub s2=>wpAny (model prog w) A (mergeMapping d (.ref sub) false) (λη s3=>Q (.ref d) s3) ff s2) ff s1) ff s):
  wpAny (model prog w) A (dictDisplay ((p1++last::p2).map x3)) Q ff s:=by
 have ne:∀{p:Z4}{run:List Z4},run.length+1<17→((run++[(p.1,p.2)]).length==17)=false:=λh=>nS (by rw[List.length_append];exact Nat.ne_of_lt h)
 unfold dictDisplay
 dsimp only
 rw[List.map_append,List.map_cons]
 rw[A57 _ none (λp run h=>by simp only[ne h,Bool.false_eq_true,if_false]) _ p1 [] (by rw[h1];decide)]
 rw[List.forIn_cons]
 have hlen:((([]++p1:List Z4)++[(last.1,last.2)]).length==17)=true:=by simp only[List.nil_append,List.length_append,h1];rfl
 have hne:((([]++p1:List Z4)++[(last.1,last.2)]).isEmpty)=false:=by cases p1<;>rfl
 simp only[hlen,if_true,hne,Bool.false_eq_true,if_false]
 refine wpAny_bind (wpAny_bind (wpAny_bind (wpAny_bind (wpAny_mono h (λd s1 k1=>?_) λη η z=>z))))
 refine wpAny_pure (wpAny_pure ?_)
 rw[← List.append_nil (List.map x3 p2)]
 show wpAny _ _ (forIn (List.map x3 p2++[]) (some d,[]) _) _ _ _
 rw[A57 _ (some d) (λp run h=>by simp only[ne h,Bool.false_eq_true,if_false]) _ p2 [] (by simp only[List.length_nil,Nat.zero_add];exact Nat.lt_of_le_of_lt h3 (by decide))]
 refine wpAny_pure ?_
 have hne2:(([]++p2:List Z4).isEmpty)=false:=oT λq=>h2 (List.length_eq_zero_iff.mpr (List.isEmpty_iff.mp q))
 simp only[hne2,Bool.false_eq_true,if_false]
 refine wpAny_bind (wpAny_bind (wpAny_holding (wpAny_mono k1 (λsub s2 k2=>?_) λη η z=>z)))
 refine wpAny_bind (wpAny_onRaise (wpAny_holding (wpAny_mono k2 (λη s3 k3=>?_) λη η z=>z.elim)))
 exact wpAny_pure (wpAny_pure k3)
end
section
open PySem PySem.W PySem.Calls PyProof.Rows
section
variable{F:Cc}{b:Shared}{σ σ':Sg}{A:Around}{α β γ δ:Type}{m:Mo F b σ}
theorem Go.of{R:Gh→Heap→α→β→Prop}{o:Option (α×Sg)}{t:Sem β}(k:∀a s,o=some (a,s)→Go A m R (some (a,s)) t):Go A m R o t:=
 match o,k with
 |none,_=>trivial
 |some _,k=>k _ _ rfl
theorem Go.ite{R:Gh→Heap→α→β→Prop}{c:Bool}{o o':Option (α×Sg)}{t t':Sem β}(h:Go A m R o t)(h':Go A m R o' t'):Go A m R (match c with|true=>o|false=>o') (match c with|true=>t|false=>t'):=
 match c with
 |true=>h
 |false=>h'
end
noncomputable abbrev Ou{T:Th}(x:Ex T)(g:Gh)(h:Heap):List RV→List Value→Prop:=A6 (G9 x g h)
noncomputable def Qg(e:Expr)(val:Fn Sg RV):Prop:=((∀rest env,starEach (e::rest) env=(false,eval e env)::starEach rest env)∧∀op,behindInMarks op e=false)∨∀sc ρ s,val sc ρ s=none
section
variable{T:Th}{p:Pos}
theorem Y6{es:List Expr}{vs:List (Ev Sg)}(h:A6 (λe v=>SEv T e v∧Qg e v.val) es vs)(pos:Pos):∀(x:Ex T){σ:Sg}(c:Cf x σ),Go x.A c.toMo (Ou x) (Mu vs x.sc x.ρ σ) (spliced (backTo pos (starEach es x.env))):=by
 induction h with
 |nil=>exactλx σ c Q hQ=>wpAny_items_nil (hQ c.toMo [] .refl .nil)
 | @cons e v es vs h1 _ ih=>
  intro x σ c
  exact h1.2.elim (λhs=>(h1.1.val x σ c).f1 (κ:=λu=>(u::·) <$> spliced (backTo pos (starEach es x.env))) (λQ hq=>wpAny_items_cons (wpAny_mono hq (λη η=>sA) λη η z=>z) (hs.1 _ _)) λv k σ' m' u st r=>
   (Cf.frz m' st r).elim λm2 q=>⟨m2,q.1,q.2.1,(ih x (c.go m2 q.2.1)).map λη η m3 η st3 al=>.cons (q.2.2.step (c.fr.step q.2.1) st3) al⟩)
   λhn=>by show Go _ _ _ (b1 (v.val x.sc x.ρ σ) _) _;rw[hn];trivial
end
end
section
open PySem PySem.W PySem.Calls PyProof.Rows
section
variable{T:Th}{p:Pos}{x:Ex T}{σ:Sg}{A:Around}{b:Shared}{m:Mo T.F b σ}
theorem U7{y:Str}{k:NameKind}(h:lk y x.sc.names=some k):(y==("__debug__":Str))=false:=nS λe=>nomatch (x.hE.debug).symm.trans (e▸h:lk "__debug__" x.sc.names=some k)
theorem nsG(c:Cf x σ):c.h.Ns x.env.globals T.F.mg:=x.hE.globals▸Cj (λo=>c.inv.base _ o) T.ok.nsG
theorem Ez(c:Cf x σ){f:Str}(hk:lk f x.sc.names=some .globalImplicit){v:Value}(hv:T.F.mg f=some v∨Zc T.F f v){Q:Value→Shared→Prop}(h:Q v c.s):wpAny T.F.M x.A (eval (.Name f p) x.env) Q ff c.s:=
 Name_function_global x.hE.kind (x.hE.names f _ hk) (hv.elim (λhv=>loadGlobal_global (mg:=T.F.mg) (nsG c) hv h) λhv=>loadGlobal_builtin (mg:=T.F.mg) (mb:=T.F.mb) (nsG c) hv.1 (x.hE.builtins▸Cj (λo=>c.inv.base _ o) T.ok.nsB) hv.2 h) (U7 hk)
theorem lY(c:Cf x σ){y:Str}(hd:(y==("__debug__":Str))=false)(hk:Wg x.env y):P2 c (o1 (lk y x.ρ) λsv=>some (Xq y sv,σ)) (eval (.Name y p) x.env):=.vo λsv e=>by
 obtain⟨u,hu,hs⟩:=c.loc y sv.1 sv.2 e hk
 have fin:∀Q:Value→Shared→Prop,Q u c.s→wpAny T.F.M x.A (eval (.Name y p) x.env) Q ff c.s:=λQ hq=>wpAny_Name (hu.elim (λq=>q.2.elim λm z=>wpAny_loadName_local x.hE.kind q.1 z.1 z.2 hq) λq=>q.2.elim λa z=>wpAny_loadName_cell x.hE.kind q.1 z.1 z.2 hq) hd
 obtain⟨sk,v⟩:=sv
 cases sk
 ·exact .leaf λQ q=>fin Q (q u c.t hs)
 ·exact .leaf λQ q=>fin Q (q u c.t ⟨⟨_,e,(λh=>nomatch h),hu⟩,hs⟩)
 ·exact .leaf λQ q=>fin Q (q u c.t ⟨⟨_,e,(λh=>nomatch h),hu⟩,hs⟩)
theorem tJ(c:Cf x σ){y:Str}:P2 c (o1 (kin x.sc y) λk=>match k with
   |.globalImplicit=>o1 (glob y) λc=>some ((.d c,.cl),σ)
   |.globalExplicit=>none
   |_=>o1 (lk y x.ρ) λsv=>some (Xq y sv,σ)) (eval (.Name y p) x.env):=.vo λk hk=>by
 have hd:=U7 hk
 have hn:=x.hE.names y k hk
 cases k
 case globalExplicit=>trivial
 case globalImplicit=>exact .vo λd hd=>(T.ok.consts y d hd).elim λu q=>.leaf λQ hQ=>Ez c hk (.inl q.1) (hQ u c.t (q.2 c.g c.inv.first))
 case «local»=>exact lY c hd (.inl hn)
 all_goals exact lY c hd (.inr hn)
theorem Go.vnew{c:Cf x σ}{σ':Sg}{m:Mo T.F x.b σ'}{o:Option (RV×Sg)}{t:Sem Value}(st:Nx c.toMo m)(h:Go x.A m (Cu T.F m.h) o t):Go x.A m (Lh x c.h) o t:=.new st.alive h
theorem A76{l r:Expr}{l' r':Ev Sg}{op:Operator}(h1:SEv T l l')(h2:SEv T r r'):SEv T (.BinOp l op r p) (evV T.I p λsc ρ s=>b1 (l'.val sc ρ s) λa η s=>b1 (r'.val sc ρ s) λb η s=>T.I.pv p (Ny op a b) s):=
 .plain (λx σ c=>(h1.val x σ c).v1 λη η η m' u st r1=>.v1 (.hold (h2.val x _ (c.go m' st))) λη η η m2 u2 st2 r2=>.at' (.oper (.vnew (t0 st st2) (A52 T.ok (r1.vw.step st2) r2.vw)))) λη η=>rfl
theorem A71{e:Expr}{e':Ev Sg}(h:SEv T e e'):SEv T (.UnaryOp .Not e p) {evV T.I p (λsc ρ s=>b1 (e'.val sc ρ s) λv η s=>T.I.pv p (sQ v) s)with tst:=λsc ρ s=>b2 (e'.tst sc ρ s) λb s=>some (!b,s)} where
 val:=λx σ c=>(h.val x σ c).v1 λη η η m' u st r=>.at' (.hold (.vnew st (A39 T.ok r.vw)))
 tst:=λx σ c=>(h.tst x σ c).not
theorem A72{e:Expr}{e':Ev Sg}(h:SEv T e e'):SEv T (.UnaryOp .USub e p) (evV T.I p λsc ρ s=>b1 (e'.val sc ρ s) λv η s=>T.I.pv p (A17 v) s):=
 .plain (λx σ c=>(h.val x σ c).v1 λη η η m' u st r=>.at' (.hold (.vnew st (A40 r.vw)))) λη η=>rfl
theorem C23{o:Option (RV×Sg)}:b1 o (λv k s=>some ((v,k),s))=o:=by cases o<;>rfl
noncomputable abbrev Ot(T:Th):List Expr→List (Ev Sg)→Prop:=A6 λe v=>SEv T e v∧Qg e v.val
theorem tA{op:BoolOp}{es:List Expr}{vs:List (Ev Sg)}(h:Ot T es vs):∀(x:Ex T){σ:Sg}(c:Cf x σ),GoT c (Pa op vs x.sc x.ρ σ) (allTrue op es x.env):=by
 induction h with
 |nil=>exactλx σ c=>match op with
  |.And=>.ret rfl
  |.Or=>.ret rfl
 |cons h1 _ ih=>exactλx σ c=>(h1.1.tst x σ c).vt λa η m' st=>match op,a with
  |.And,true=>ih x (c.go m' st)
  |.And,false=>.ret rfl
  |.Or,true=>.ret rfl
  |.Or,false=>ih x (c.go m' st)
theorem mA{op:BoolOp}{es:List Expr}{vs:List (Ev Sg)}(h:Ot T es vs):∀(x:Ex T){σ:Sg}(c:Cf x σ),P2 c (evB T.I op vs p x.sc x.ρ σ) (boolOp p op (evalEach es x.env)):=by
 induction h with
 |nil=>exactλx σ c=>trivial
 | @cons e v es vs h1 h2 ih=>
  intro x σ c
  cases h2 with
  |nil=>
   show Go _ _ _ (b1 (v.val x.sc x.ρ σ) λv k s=>some ((v,k),s)) (eval e x.env)
   exact(C23)▸h1.1.val x σ c
  |cons h3 h4=>exact(h1.1.val x σ c).v1 λv k η m' u st r=>.at' ((Go.hold (Ie T.ok r.vw)).vt λa η m2 st2=>match op,a with
   |.And,true=>.up (t0 st st2) (ih x (c.go m2 (t0 st st2)))
   |.And,false=>.ret (r.step (c.fr.step st) st2)
   |.Or,true=>.ret (r.step (c.fr.step st) st2)
   |.Or,false=>.up (t0 st st2) (ih x (c.go m2 (t0 st st2))))
theorem uM{op:BoolOp}{es:List Expr}{vs:List (Ev Sg)}(h:Ot T es vs):SEv T (.BoolOp op es p) {evV T.I p (evB T.I op vs p)with tst:=Pa op vs} where
 val:=λx σ c=>mA h x c
 tst:=λx σ c=>tA h x c
end
end
section
open PySem PySem.W PySem.Calls PyProof.Rows
section
variable{F:Cc}{b:Shared}{σ:Sg}{A:Around}{m:Mo F b σ}{α β γ δ:Type}
theorem Go.tru{o:Option (Bool×Sg)}{t:Sem Value}(h:Go A m M8 o t):Go A m bP o (t >>=λc=>holding [c] (truthy c)):=
 match o,h with
 |none,_=>trivial
 |some _,h=>h.bnd λm' u η r=>r▸.hold (.leafB λη q=>wpAny_truthy_bool (q m'.t))
theorem Go.no1{R:Gh→Heap→α→β→Prop}{o:Option (RV×Sg)}{f:V→Kd→Sg→Option (α×Sg)}{t:Sem β}(h:∀v k s,f v k s=none):Go A m R (b1 o f) t:=
 match o with
 |none=>trivial
 |some ((v,k),s)=>by show Go _ _ _ (f v k s) _;rw[h];trivial
theorem Go.rel{R:Gh→Heap→α→β→Prop}{o:Option (α×Sg)}{t:Sem β}{vs ks:List Value}(h:Go A m R o t):Go A m R o (release vs ks >>=λη=>t):=h.rl λη z=>wpAny_bind (wpAny_release' z)
theorem Go.val(n:Heap){o:Option (Bool×Sg)}{t:Sem Value}(h:Go A m M8 o t):Go A m (Cu F n) (b2 o λc s=>some ((.d (.bool c),.cl),s)) t:=
 match o,h with
 |none,_=>trivial
 |some _,h=>λQ hQ=>h Q λm' u st r=>hQ m' u st r
end
section
variable{T:Th}{p:Pos}
section
variable{l r r2:Expr}{l' r' r2':Ev Sg}{op op2:CmpOp}(h1:SEv T l l')(h3:SEv T r r')
include h1 h3
theorem C97(hs:behindInMarks op r=false):SEv T (.Compare l [op] [r] p) (evK T.I [op] [r] l' [r'] p) where
 val:=λx σ c=>by
  show Go _ _ _ _ (eval l x.env >>=λa=>holding [a] (markedBehindIn op r (eval r x.env)) >>=λb=>standAt p >>=λη=>operate [a,b] (compareOp op a b))
  rw[markedBehindIn_of_false hs]
  exact(h1.val x σ c).v1 λη η η m' u st r1=>.v1 (.hold (h3.val x _ (c.go m' st))) λη η η m2 u2 st2 r2=>.at' (.oper (.new (t0 st st2).alive ((Ro T.ok x.hA (r1.vw.step st2) r2.vw).val m2.h)))
 tst:=λx σ c=>by
  show Go _ _ _ _ (eval l x.env >>=λa=>holding [a] (markedBehindIn op r (eval r x.env)) >>=λb=>standAt p >>=λη=>operate [a,b] (compareOp op a b) >>=λc=>holding [c] (truthy c))
  rw[markedBehindIn_of_false hs]
  exact(h1.val x σ c).v1 λη η η m' u st r1=>.v1 (.hold (h3.val x _ (c.go m' st))) λη η η m2 u2 st2 r2=>.at' (.tru (.oper (Ro T.ok x.hA (r1.vw.step st2) r2.vw)))
theorem C96(h5:SEv T r2 r2')(x:Ex T)(σ:Sg)(c:Cf x σ):GoT c ((evK T.I [op,op2] [r,r2] l' [r',r2'] p).tst x.sc x.ρ σ) (isTrue (.Compare l [op,op2] [r,r2] p) x.env (eval (.Compare l [op,op2] [r,r2] p) x.env)):=.vi λhm=>by
 show Go _ _ _ _ (eval l x.env >>=λa=>testChain p a [op,op2] (markedEach [op,op2] [r,r2] [eval r x.env,eval r2 x.env]))
 rw[markedEach_of_false _ _ _ (by rw[Bool.not_eq_true']at hm;exact hm)]
 exact(h1.val x σ c).v1 λη η η m' u st r1=>.v1 (.hold (h3.val x _ (c.go m' st))) λη η η m2 u2 st2 r2=>.at' (Go.v2 (.hold (Ro T.ok x.hA (r1.vw.step st2) r2.vw)) λa η m3 u3 st3 e=>.rel (e▸.bnd (.hold (.leafB λη q=>wpAny_truthy_bool (q m3.t))) λm4 u4 st4 e4=>e4▸
  .ve (.v1 (.hold (h5.val x _ (c.go m4 (t0 (t0 (t0 st st2) st3) st4)))) λη η η m5 u5 st5 r5=>.at' (.tru (.oper (Ro T.ok x.hA (r2.vw.step (t0 (t0 st3 st4) st5)) r5.vw)))) (.ret rfl)))
end
theorem A75{l:Expr}{l':Ev Sg}{ops:List CmpOp}{cs:List Expr}{rs:List (Ev Sg)}(h1:SEv T l l')(h2:Ot T cs rs):SEv T (.Compare l ops cs p) (evK T.I ops cs l' rs p):=by
 cases h2 with
 |nil=>exact⟨λx σ c=>(by rcases ops with _|⟨op,_|_⟩<;>trivial),λx σ c=>(by rcases ops with _|⟨op,_|⟨op2,_|_⟩⟩<;>trivial)⟩
 |cons h3 h4=>
  rcases ops with _|⟨op,_|⟨op2,ops⟩⟩
  ·exact⟨λx σ c=>trivial,λx σ c=>trivial⟩
  ·cases h4 with
   |cons=>exact⟨λx σ c=>trivial,λx σ c=>trivial⟩
   |nil=>exact h3.2.elim (λq=>C97 h1 h3.1 (q.2 op)) λhn=>⟨λx σ c=>.no1 λη η s=>by rw[hn];rfl,λx σ c=>.no1 λη η s=>by rw[hn];rfl⟩
  ·as_aux_lemma=>
    refine⟨λx σ c=>trivial,λx σ c=>?_⟩
    cases ops with
    |cons=>trivial
    |nil=>
     cases h4 with
     |nil=>trivial
     |cons h5 h6=>
      cases h6 with
      |cons=>trivial
      |nil=>exact C96 h1 h3.1 h5.1 x σ c
theorem P5{o:Obj}{es:Array DictEntry}{ep:Nat}{a:Str}{u:Value}(hd:o.data=.dict es ep)(h:nsFind es a=some u):lookIn a o=some (some u):=by
 unfold lookIn
 rw[hd]
 obtain⟨e,he,rfl⟩:=rH h
 rw[← Array.find?_toList]at he
 simp only[he]
theorem J0{o:Obj}{es:Array DictEntry}{ep:Nat}{a:Str}(hd:o.data=.dict es ep)(hk:StrKeys es)(h:nsFind es a=none):lookIn a o=some none:=by
 unfold nsFind findBy at h
 unfold lookIn
 rw[hd]
 have he:=Option.map_eq_none_iff.mp h
 rw[← Array.find?_toList]at he
 have hr:(es.toList.any λx=>x.refKey)=false:=List.any_eq_false.mpr λx hx=>by
  obtain⟨n,t,e⟩:=hk x (Array.mem_toList_iff.mp hx)
  unfold DictEntry.refKey
  exact(e)▸Bool.false_ne_true
 simp only[he,hr]
 rfl
theorem X5{g:Gh}{v:V}{u:Value}(r:rel g v u):handedIn u=true:=by
 cases v with
 |o k=>rw[r.2];rfl
 |d x=>
  replace r:Mb (D9 x) _ _ u:=r
  cases e:D9 x<;>rw[e]at r
  ·cases x<;>first|(cases(show u=_ from r);rfl)|exact Exists.elim r λη e=>e▸rfl|exact False.elim r
  ·exact Exists.elim r λη e=>e.1▸rfl
noncomputable def lkR(g:Gh)(m:Str→Option Value)(od:Obj)(x:Str):Option V→Prop
 |some v=>∃u,m x=some u∧rel g v u∧lookIn x od=some (some u)
 |none=>m x=none∧lookIn x od=some none
theorem Rg{F:Cc}{g:Gh}{h:Heap}{P Q:Addr}{c:Nat}{fs:List (Str×V)}(hm:P6 F g h P Q (.inst c fs)):∃od m,InstAt h P (instObj (F.Cl c) Q) (F.Cl c) (some od)∧h.get? Q=some od∧h.Ns Q m∧∀x,lkR g m od x (lk x fs):=by
 refine Ac λXz hXz=>?_
 obtain⟨_,hb,m,hn,_,hx⟩:=hm
 obtain⟨o,es,ep,ho,hd,hk,hf⟩:=id hn
 refine hXz ?_
 refine⟨o,m,⟨hb,rfl,rfl,ho⟩,ho,hn,λx=>?_⟩
 have:=hx x
 revert this
 cases lk x fs with
 |none=>exactλe=>⟨e,J0 hd hk ((hf x).trans e)⟩
 |some v=>exactλq=>q.elim λu z=>⟨u,z.1,z.2,P5 hd ((hf x).trans z.1)⟩
theorem A94{c:Nat}(h:Nat.blt c 3=true):c<3:=Nat.le_of_ble_eq_true h
theorem J4{F:Cc}{g:Gh}{σ:Sg}{h:Heap}(hF:Am F)(hI:Hb F g σ h):F.K.In h:=λa o e=>hI.base a o (hF.kin a o e)
theorem tP{F:Cc}{b:Shared}{σ:Sg}{A:Around}{m:Mo F b σ}(hF:Am F){a:Str}{v:V}{u:Value}:Vw F m.g m.h v u→Go A m (Cu F m.h) (o1 (kS a v σ) λr=>some (r,σ)) (getAttr u a true):=by
 refine V.casesOn v (λη η=>trivial) λn hu=>?_
 refine hu.oE (P:=λu=>Go A m (Cu F m.h) _ (getAttr u a true)) λhn=>rV (P:=λo=>Go A m _ (o1 o _) _) trivial λc fs e=>.oai λhc=>.oa (.vo λv e2=>(Rg (m.inv.obj n _ e)).elim λod q=>q.elim λm' hi=>?_)
 have hc:=Ab hc
 have hx:=hi.2.2.2 a
 rw[e2]at hx
 have C:=hF.cls c (A94 hc.1)
 exact hx.elim λw z=>.leaf λQ q=>get_value (s:=m.s) (J4 hF m.inv) hi.1 C.ga (findObj_own C.dict (C.attr a hc.2) rfl z.2.2) (X5 z.2.1) (q w _ z.2.1)
theorem uO{e:Expr}{e':Ev Sg}{a:Str}(h:SEv T e e')(hp:C5 e=true→∀a env w,attributeBase e a env w=w):∀(x:Ex T) σ(c:Cf x σ),P2 c (iB (C5 e) (b1 (e'.val x.sc x.ρ σ) λv η s=>T.I.pv p (kS a v s) s)) (eval (.Attribute e a p) x.env):=λx σ c=>.vi λhb=>by
 show Go _ _ _ _ (attributeBase e a x.env (eval e x.env) >>=λo=>standAt p.atName >>=λη=>holding [o] (getAttr o a true) >>=λr=>letTemporaryGo e o r >>=λη=>pure r)
 rw[hp hb]
 exact(h.val x σ c).v1 λη η η m' u st r=>.at' (.rl (λQ z=>wpAny_bind (wpAny_holding (wpAny_mono z (λη η z=>wpAny_bind (wpAny_letTemporaryGo (wpAny_pure z))) λη η z=>z))) (.vnew st (tP T.ok r.vw)))
end
end
section
open PySem PySem.W PySem.Calls PyProof.Rows
noncomputable def Jj:List (PyData×V)→Prop
 |[]=>True
 |p::r=>Cw p.1 r=none∧Jj r
theorem dE{g:Gh}{k:PyData}{c:Int⊕Str}(hk:It k=some c){kvs:List (PyData×V)}{es:List ((Int⊕Str)×Value)}(al:Qf g kvs es):Cw k kvs=none→c∉es.map (·.1):=by
 induction al with
 |nil=>exactλη h=>absurd h List.not_mem_nil
 | @cons a b as bs h1 _ ih=>
  intro q
  replace q:(match PyData.eqv a.1 k with|true=>some a.2|false=>Cw k as)=none:=q
  rw[Rb h1.1 hk]at q
  cases e:decide (b.1=c)<;>rw[e]at q
  ·exactλhm=>(Mw hm).elim (λz=>of_decide_eq_false e z.symm) (ih q)
  ·exact nomatch q
theorem Iu{g:Gh}{kvs:List (PyData×V)}{es:List ((Int⊕Str)×Value)}(al:Qf g kvs es):Jj kvs→(es.map (·.1)).Nodup:=by
 induction al with
 |nil=>exactλη=>.nil
 |cons h1 h2 ih=>exactλq=>List.nodup_cons.mpr ⟨dE h1.1 h2 q.1,ih q.2⟩
theorem Ue{k:PyData}{b:List (PyData×V)}:∀{a:List (PyData×V)},Cw k (a++b)=none→Cw k a=none
 |[],_=>rfl
 |(c,v)::a,h=>by
  replace h:(match PyData.eqv c k with|true=>some v|false=>Cw k (a++b))=none:=h
  show(match PyData.eqv c k with|true=>some v|false=>Cw k a)=none
  cases e:PyData.eqv c k<;>rw[e]at h
  ·exact Ue h
  ·exact h
theorem N4{b:List (PyData×V)}:∀{a:List (PyData×V)},Jj (a++b)→Jj a
 |[],_=>trivial
 |_::_,q=>⟨Ue q.1,N4 q.2⟩
set_option tactic.hygienic true in
set_option backward.match.sparseCases true in
theorem Pj{k:Option Expr}{t:Str}(h:B39 k=some t):∃c p,k=some (.Constant (.str t) c p):=by
 cases k with
 |none=>exact Ao h
 |some e=>cases e<;>first|exact Ao h|(rename_i c _ _;cases c<;>first|exact Ao h|(cases h;exact⟨_,_,rfl⟩))
noncomputable def PmR(F:Cc)(n:Nat)(g:Gh)(_:Heap)(kvs:List (PyData×V))(us:List (Value×Value)):Prop:=(kvs.length=n∧Jj kvs)∧∃es,Carries (Dx F) us es∧Qf g kvs es
section
variable{T:Th}{p:Pos}{x:Ex T}{σ σ':Sg}
theorem Go.fk{F:Cc}{b:Shared}{A:Around}{β γ δ:Type}{m:Mo F b σ}{k:Nat}{R:Gh→Heap→RV→β→Prop}{R':Gh→Heap→γ→δ→Prop}{o:Option (RV×Sg)}{f:V→Kd→Sg→Option (γ×Sg)}{t:Sem β}{t':Sem δ}{κ:β→Sem δ}
  (rule:∀Q,wpAny F.M A t (λu s=>wpAny F.M A (κ u) Q ff s) ff (m.tk k).s→wpAny F.M A t' Q ff m.s) (h:Go A (m.tk k) R o t)
  (cn:∀v kd σ'(m':Mo F b σ') u,Nx m m'→R m'.g m'.h (v,kd) u→∃m2:Mo F b σ',m2.s=m'.s∧Nx m m2∧Go A m2 R' (f v kd σ') (κ u)):Go A m R' (b1 o f) t':=
 match o,h with
 |none,_=>trivial
 |some ((v,kd),σ1),h=>by
  show Go A m R' (f v kd σ1) t'
  cases e:f v kd σ1 with
  |none=>trivial
  |some a=>exactλQ hQ=>rule Q (h _ λm' u st r=>(cn v kd σ1 m' u st r).elim λm2 q=>by
   have z:=q.2.2
   rw[e]at z
   exact q.1▸z Q λm3 w st3 r3=>hQ m3 w (t0 q.2.1 st3) r3)
noncomputable abbrev Cf.tk(c:Cf x σ)(k:Nat):Cf x σ:={c with t:=k}
theorem nR{M:Model}{A:Around}{α β:Type}{s:Shared}{t:Sem α}{f:α→β}{Q:β→Shared→Prop}(h:wpAny M A (t >>=λa=>pure (f a)) Q ff s):wpAny M A t (λa s=>Q (f a) s) ff s:=λΓ p hΓ=>by have:=h Γ p hΓ;rwa [Sem.wp_bind']at this
theorem zG{T:Th}{x:Ex T}{σ:Sg}{m3:Mo T.F x.b σ}{t:Str}{k:Tok}{y:V}{u:Value}{kvs:List (PyData×V)}{us:List (Value×Value)}{n:Nat}(hr:rel m3.g y u)(r:PmR T.F n m3.g m3.h kvs us)(hu:(Cw (.str t) kvs).isNone=true):
  PmR T.F (n+1) m3.g m3.h ((.str t,y)::kvs) ((.str t k,u)::us):=⟨⟨congrArg (· +1) r.1.1,Option.isNone_iff_eq_none.mp hu,r.1.2⟩,r.2.elim λes q=>⟨(.inr t,u)::es,⟨Cr t k,rfl,q.1⟩,.cons ⟨rfl,hr⟩ q.2⟩⟩
theorem lW{es:List Expr}{vs:List (Ev Sg)}(h:Ot T es vs):∀(ks:List (Option Expr)){σ:Sg}(c:Cf x σ),Go x.A c.toMo (PmR T.F ks.length) (oS ks vs x.sc x.ρ σ) (evalPairs (Xb ks es x.env p)):=by
 induction h with
 |nil=>exactλks σ c=>match ks with
  |[]=>λQ hQ=>evalPairs_nil (hQ c.toMo [] .refl ⟨⟨rfl,trivial⟩,[],trivial,.nil⟩)
  |_::_=>trivial
 | @cons e v es vs h1 _ ih=>exactλks σ c=>match ks with
  |[]=>trivial
  |k::ks=>.vo λt hk=>by
   obtain⟨cc,p',rfl⟩:=Pj hk
   exact Go.fk (k:=c.t+1) (κ:=λu=>evalPairs (Xb ks es x.env p) >>=λus=>pure ((Value.str t c.t,u)::us)) (λQ q=>evalPairs_cons (wpAny_Constant_str (wpAny_bind (wpAny_mono q (λη η z=>wpAny_bind (wpAny_standAt (wpAny_pure (nR z)))) λη η z=>z)))) (h1.1.val x σ (c.tk (c.t+1)))
    λw k' σ' m u st r=>(Cf.frz (c:=c.tk (c.t+1)) m st r).elim λm2 q=>⟨m2,q.1,q.2.1,.vo λy hy=>(ih ks ((c.tk (c.t+1)).go m2 q.2.1)).v2 λkvs σ2 m3 us st3 r3=>.vi λhu=>.ret (zG (Bk st3 (q.2.2.clean hy)) r3 hu)⟩
end
end
section
open PySem PySem.W PySem.Calls PyProof.Rows
theorem A4{α β:Type}{a:Option α}{f:α→Option β}{r:β}(h:o1 a f=some r):∃x,a=some x∧f x=some r:=match a,h with
 |none,h=>Ao h
 |some x,h=>⟨x,rfl,h⟩
theorem Av{S α β:Type}{a:Option (α×S)}{f:α→S→Option β}{r:β}(h:b2 a f=some r):∃x σ,a=some (x,σ)∧f x σ=some r:=match a,h with
 |none,h=>Ao h
 |some (x,s),h=>⟨x,s,rfl,h⟩
theorem Fm{S β:Type}{a:Option (RV×S)}{f:V→Kd→S→Option β}{r:β}(h:b1 a f=some r):∃v k σ,a=some ((v,k),σ)∧f v k σ=some r:=match a,h with
 |none,h=>Ao h
 |some ((v,k),s),h=>⟨v,k,s,rfl,h⟩
theorem B7{β:Type}{b:Bool}{x:Option β}{r:β}(h:iB b x=some r):b=true∧x=some r:=match b,h with
 |false,h=>Ao h
 |true,h=>⟨rfl,h⟩
inductive Sr(sc:Scope)(ρ:A1):List (Option Expr)→List (Ev Sg)→Sg→List (PyData×V)→Sg→Prop
 |nil {σ:Sg}:Sr sc ρ [] [] σ [] σ
 |cons {t:Str} {c:Nat} {p:Pos} {ks:List (Option Expr)} {v:Ev Sg} {vs:List (Ev Sg)} {r:RV} {σ σ1 σ':Sg} {y:V} {kvs:List (PyData×V)}:v.val sc ρ σ=some (r,σ1)→clean r=some y→Sr sc ρ ks vs σ1 kvs σ'→Sr sc ρ (some (.Constant (.str t) c p)::ks) (v::vs) σ ((.str t,y)::kvs) σ'
theorem Xk{sc:Scope}{ρ:A1}:∀{ks:List (Option Expr)}{vs:List (Ev Sg)}{σ σ':Sg}{kvs:List (PyData×V)},oS ks vs sc ρ σ=some (kvs,σ')→Sr sc ρ ks vs σ kvs σ'∧Jj kvs
 |[],[],_,_,_,e=>by cases e;exact⟨.nil,trivial⟩
 |[],_::_,_,_,_,e=>Ao e
 |_::_,[],_,_,_,e=>Ao e
 |k::ks,v::vs,σ,σ',kvs,e=>by
  refine Ac λXz hXz=>?_
  obtain⟨t,hk,e⟩:=A4 (show o1 _ _=_ from e)
  obtain⟨w,kd,σ1,e1,e⟩:=Fm e
  obtain⟨y,e2,e⟩:=A4 e
  obtain⟨l,σ2,e3,e⟩:=Av e
  obtain⟨hu,e⟩:=B7 e
  refine hXz ?_
  cases e
  obtain⟨c,p,rfl⟩:=Pj hk
  obtain⟨i1,i2⟩:=Xk e3
  exact⟨.cons e1 e2 i1,Option.isNone_iff_eq_none.mp hu,i2⟩
theorem Sr.len{sc:Scope}{ρ:A1}{ks:List (Option Expr)}{vs:List (Ev Sg)}{σ σ':Sg}{kvs:List (PyData×V)}(h:Sr sc ρ ks vs σ kvs σ'):kvs.length=ks.length∧vs.length=ks.length:=by
 induction h with
 |nil=>exact⟨rfl,rfl⟩
 |cons _ _ _ ih=>exact⟨congrArg (· +1) ih.1,congrArg (· +1) ih.2⟩
theorem Sr.shape{sc:Scope}{ρ:A1}{ks:List (Option Expr)}{vs:List (Ev Sg)}{σ σ':Sg}{kvs:List (PyData×V)}(env:Env)(p:Pos)(h:Sr sc ρ ks vs σ kvs σ'):∀{es:List Expr},es.length=vs.length→
  (evalEachOpt ks env).zip ((evalEach es env).map λv=>do let x ← v;standAt p;pure x)=(Xb ks es env p).map x3∧(Xb ks es env p).length=ks.length:=by
 induction h with
 |nil=>exactλe=>List.length_eq_zero_iff.mp e▸⟨rfl,rfl⟩
 |cons _ _ _ ih=>exactλ{es} e=>match es,e with
  |_::es,e=>⟨congrArg (List.cons _) (ih (Nat.succ.inj e)).1,congrArg (· +1) (ih (Nat.succ.inj e)).2⟩
theorem Sr.split{sc:Scope}{ρ:A1}{ks:List (Option Expr)}{vs:List (Ev Sg)}{σ σ':Sg}{kvs:List (PyData×V)}(h:Sr sc ρ ks vs σ kvs σ'):∀n,∃σ1,Sr sc ρ (ks.take n) (vs.take n) σ (kvs.take n) σ1∧Sr sc ρ (ks.drop n) (vs.drop n) σ1 (kvs.drop n) σ':=by
 induction h with
 |nil=>exactλn=>by cases n<;>exact⟨_,.nil,.nil⟩
 |cons h1 h2 h3 ih=>exactλn=>match n with
  |0=>⟨_,.nil,.cons h1 h2 h3⟩
  |n+1=>(ih n).elim λs q=>⟨s,.cons h1 h2 q.1,q.2⟩
theorem Pm(env:Env)(p:Pos):∀(n:Nat)(ks:List (Option Expr))(es:List Expr),es.length=ks.length→ks.all (·.isSome)=true→Xb ks es env p=Xb (ks.take n) (es.take n) env p++Xb (ks.drop n) (es.drop n) env p
 |0,_,_,_,_=>rfl
 |n+1,[],[],_,_=>rfl
 |n+1,some k::ks,e::es,he,h=>congrArg (List.cons _) (Pm env p n ks es (Nat.succ.inj he) h)
 |n+1,none::ks,_,_,h=>Bool.noConfusion h
theorem Sr.some{sc:Scope}{ρ:A1}{ks:List (Option Expr)}{vs:List (Ev Sg)}{σ σ':Sg}{kvs:List (PyData×V)}(h:Sr sc ρ ks vs σ kvs σ'):ks.all (·.isSome)=true:=by
 induction h with
 |nil=>rfl
 |cons _ _ _ ih=>exact ih
theorem mX{n:Nat}(h:C14 n=true):n≤32∧(n≤15∨18≤n):=by
 rcases Ho h with h|h
 ·have h:=Nat.le_of_ble_eq_true h
  exact⟨Ag h (by decide),.inl h⟩
 ·have h:=Ab h
  exact⟨Nat.le_of_ble_eq_true h.2,.inr (Nat.le_of_ble_eq_true h.1)⟩
noncomputable abbrev L9:Obj:={cls:=.type "dict",data:=.dict #[]}
section
variable{T:Th}{p:Pos}{x:Ex T}{σ σ' σ0:Sg}
theorem J8{F:Cc}(h:Heap):(h.push L9).DictOf (Dx F) h.objs.size []:=⟨L9,#[],_,Heap.get?_push_size _ rfl,⟨rfl,rfl,rfl⟩,rfl,(λη he=>absurd he (Array.not_mem_empty _)),.nil,.nil⟩
structure Wi(F:Cc)(n:Heap)(kvs:List (PyData×V))(g:Gh)(h:Heap)(D:Addr):Prop where
 new:n.get? D=none
 prv:Hi F g h D
 dct:∃es,h.DictOf (Dx F) D es∧Qf g kvs es
theorem Jq{F:Cc}{b:Shared}{m:Mo F b σ}:Hi F m.g (m.push L9).h m.h.objs.size:=.new m.inv (Ap _) ⟨_,Heap.get?_push_size _ rfl⟩
theorem Pi{es:List Expr}{vs:List (Ev Sg)}{ks:List (Option Expr)}(hs:Ot T es vs)(c:Cf x σ){kvs:List (PyData×V)}(e:oS ks vs x.sc x.ρ σ=some (kvs,σ'))(hl:ks.length≤15){Q:Addr→Shared→Prop}
  (hQ:∀(m:Mo T.F x.b σ') D,Nx c.toMo m→Wi T.F c.h kvs m.g m.h D→Q D m.s):wpAny T.F.M x.A (subDict (Xb ks es x.env p)) Q ff c.s:=by
 refine Ac λXz hXz=>?_
 obtain⟨mk,hu⟩:=Xk e
 refine hXz ?_
 refine wpAny_subDict (knd:=Dx T.F) ((mk.shape x.env p hs.length.symm).2▸hl) ?_
 have gp:=lW (x:=x) (p:=p) hs ks (c.go (c.push L9) (Ar _))
 rw[e]at gp
 refine gp _ λm us st r=>?_
 refine Ac λXz hXz=>?_
 obtain⟨_,es',hc,al⟩:=r
 refine hXz ?_
 have pv:=Jq (m:=c.toMo).step st id
 refine⟨es',hc,Ig (λo ho=>st.keep _ _ ho (Jq (m:=c.toMo)).im id) (J8 c.h),λh' hD hs'=>?_⟩
 rw[merged_nil_of_nodup es' (Iu al hu)]at hD
 have hn:∃o,h'.get? c.h.objs.size=some o:=hD.elim λo q=>q.elim λη q=>q.elim λη q=>⟨o,q.1⟩
 exact hQ ⟨h',_,m.g,m.inv.priv pv hs'⟩ _ ((t0 (Ar _) st).fresh (Ap _) (.priv hs' hn)) ⟨Ap _,pv.priv hn,es',hD,al⟩
noncomputable def C93(D:Addr)(z:Z4)(_:PUnit):Sem (ForInStep PUnit):=do let kv ← z.1;let vv ← holding [kv] z.2;holding [kv,vv] (dictSet D kv vv);pure (ForInStep.yield PUnit.unit)
noncomputable def B07(p:Pos)(c0:Cf x σ0)(D:Addr)(es:List Expr)(ks:List (Option Expr))(σ σ':Sg)(kvs:List (PyData×V)):Prop:=∀(m:Mo T.F x.b σ){acc:List ((Int⊕Str)×Value)}{accK:List (PyData×V)},Nx c0.toMo m→Hi T.F m.g m.h D→m.h.DictOf (Dx T.F) D acc→Qf m.g accK acc→
  acc.length+ks.length≤32→Jj (accK++kvs)→∀Q:PUnit→Shared→Prop,(∀m':Mo T.F x.b σ',Nx c0.toMo m'→Wi T.F c0.h (accK++kvs) m'.g m'.h D→Q ⟨⟩ m'.s)→
  wpAny T.F.M x.A (forIn (Xb ks es x.env p) PUnit.unit (C93 D)) Q ff m.s
theorem gS(c0:Cf x σ0){D:Addr}(hD:c0.h.get? D=none){e:Expr}{v:Ev Sg}{es:List Expr}(h1:SEv T e v){t:Str}{cc:Nat}{p':Pos}{ks:List (Option Expr)}{r:RV}{σ σ1 σ':Sg}{y:V}{kvs:List (PyData×V)}(e1:v.val x.sc x.ρ σ=some (r,σ1))(e2:clean r=some y)
  (ih:B07 p c0 D es ks σ1 σ' kvs):B07 p c0 D (e::es) (some (.Constant (.str t) cc p')::ks) σ σ' ((.str t,y)::kvs):=by
 intro m acc accK st hP hd al hz hu Q hQ
 have hv:=h1.val x σ ((c0.go m st).tk (m.t+1))
 rw[e1]at hv
 show wpAny _ _ (forIn (_::Xb ks es x.env p) _ _) Q _ _
 rw[List.forIn_cons]
 refine wpAny_bind (wpAny_bind (wpAny_Constant_str (env:=x.env) (k:=cc) (pos:=p') (wpAny_bind (wpAny_holding (wpAny_bind (hv _ λm1 u st1 r1=>wpAny_bind (wpAny_standAt (wpAny_pure (wpAny_bind (wpAny_holding ?_))))))))))
 refine Ac λXz hXz=>?_
 obtain⟨m2,es2,st2,r2⟩:=Cf.frz (c:=(c0.go m st).tk (m.t+1)) m1 st1 r1
 refine hXz ?_
 rw[← es2]
 have hP2:=hP.step st2 id
 refine wpAny_dictSet_pairs (s:=m2.s) (knd:=Dx T.F) (k:=.inr t) (hsz:=Ag (Ag (Nat.le_add_right _ _) hz) (by rw[sizeLine_eq];decide)) (Cr t m.t) (Ig (λo ho=>st2.keep _ _ ho hP.im id) hd) λh' hd' hs'=>wpAny_pure ?_
 have hn:∃o,h'.get? D=some o:=hd'.elim λo q=>q.elim λη q=>q.elim λη q=>⟨o,q.1⟩
 have all:Qf m2.g (accK++[(.str t,y)]) (acc++[(.inr t,u)]):=(Tp st2.gm al).append (.one ⟨rfl,r2.clean e2⟩)
 rw[← List.singleton_append,← List.append_assoc]at hu
 have hst:stored acc (.inr t) u=acc++[(.inr t,u)]:=merged_append_of_fresh acc [(.inr t,u)] (Iu all (N4 hu))
 rw[hst]at hd'
 refine ih ⟨h',m2.t+1,m2.g,m2.inv.priv hP2 hs'⟩ ((t0 st st2).fresh hD (.priv hs' hn)) (hP2.priv hn) hd' all (by rw[List.length_append];exact Ag (Nat.le_of_eq (Nat.succ_add_eq_add_succ _ _)) hz) hu Q λm' s' d=>hQ m' s' (by rw[List.append_assoc]at d;exact d)
theorem gT{es:List Expr}{vs:List (Ev Sg)}(hs:Ot T es vs)(c0:Cf x σ0){D:Addr}(hD:c0.h.get? D=none){ks:List (Option Expr)}{σ σ':Sg}{kvs:List (PyData×V)}(mk:Sr x.sc x.ρ ks vs σ kvs σ'):B07 p c0 D es ks σ σ' kvs:=by
 induction mk generalizing es with
 |nil=>
  cases hs
  exactλm acc accK st hP hd al η η Q hQ=>wpAny_pure (hQ m st ⟨hD,hP,acc,hd,(List.append_nil accK).symm▸al⟩)
 |cons e1 e2 mk ih=>
  cases hs with
  |cons h1 h2=>exact gS c0 hD h1.1 e1 e2 (ih h2)
end
end
section
open PySem PySem.W PySem.Calls PyProof.Rows
section
variable{T:Th}{p:Pos}{x:Ex T}{σ σ':Sg}
noncomputable def B15(F:Cc)(n:Heap)(g:Gh)(h:Heap)(kvs:List (PyData×V))(u:Value):Prop:=kvs.length≤I1∧∃D,u=.ref D∧Wi F n kvs g h D
theorem gU{es:List Expr}{vs:List (Ev Sg)}{ks:List (Option Expr)}(hs:Ot T es vs)(c:Cf x σ){kvs:List (PyData×V)}(mk:Sr x.sc x.ρ ks vs σ kvs σ')(hu:Jj kvs)(hl:ks.length=17){Q:Addr→Shared→Prop}
  (hQ:∀(m:Mo T.F x.b σ') D,Nx c.toMo m→Wi T.F c.h kvs m.g m.h D→Q D m.s):wpAny T.F.M x.A (subDict (Xb ks es x.env p)) Q ff c.s:=by
 refine wpAny_bind (wpAny_alloc (wpAny_bind (wpAny_holding ?_)))
 rw[if_neg (by rw[(mk.shape x.env p hs.length.symm).2,hl];decide)]
 refine wpAny_bind (wpAny_rule (wpAny_bind (gT hs c (Ap _) mk (c.push L9) (acc:=[]) (accK:=[]) (Ar _) (Jq (m:=c.toMo)) (J8 c.h) .nil (by rw[hl];decide) hu _ λm' s' d=>?_)))
 exact wpAny_pure (wpAny_pure (hQ m' _ s' d))
theorem uP{sc:Scope}{ρ:A1}{ks:List (Option Expr)}{vs:List (Ev Sg)}{kvs:List (PyData×V)}(h:Sr sc ρ ks vs σ kvs σ'):Jj kvs→oS ks vs sc ρ σ=some (kvs,σ'):=by
 induction h with
 |nil=>exactλη=>rfl
 | @cons t c p ks v vs r σ σ1 σ' y kvs e1 e2 _ ih=>
  intro hu
  show b1 (v.val sc ρ σ) _=_
  rw[e1]
  show o1 (clean r) (λy=>b2 (oS ks vs sc ρ σ1) λkvs s=>iB (Cw (.str t) kvs).isNone (some ((.str t,y)::kvs,s)))=_
  rw[e2]
  rw[ih hu.2]
  show iB (Cw (.str t) kvs).isNone _=_
  rw[show Cw (.str t) kvs=none from hu.1];rfl
theorem Pe:∀(n:Nat){kvs:List (PyData×V)},Jj kvs→Jj (kvs.drop n)
 |0,_,h=>h
 |_+1,[],h=>h
 |n+1,_::kvs,h=>Pe n h.2
theorem aR{α:Type}{l:List α}{n:Nat}(h:l.length=n+1):∃a b,l=a++[b]∧a.length=n:=
 have h0:l≠[]:=λe=>nomatch (e▸h:([]:List α).length=n+1)
 ⟨l.dropLast,l.getLast h0,(List.dropLast_concat_getLast h0).symm,by rw[List.length_dropLast,h];rfl⟩
theorem W0{α β:Type}{R:α→β→Prop}{as:List α}{bs:List β}(h:A6 R as bs)(n:Nat):A6 R (as.take n) (bs.take n):=h.take n
theorem Yb{m:Mo T.F x.b σ'}{n n':Heap}{k1 k2:List (PyData×V)}{D1 D2:Addr}(d1:Wi T.F n k1 m.g m.h D1)(d2:Wi T.F n' k2 m.g m.h D2)(hD:D1≠D2)(hu:Jj (k1++k2))(l1:k1.length=17)(l2:k2.length≤15){Q:Unit→Shared→Prop}
  (hQ:∀h3,Heap.SameBut D1 m.h h3→(∃o,h3.get? D1=some o)→Wi T.F n (k1++k2) m.g h3 D1→Q () {m.s with heap:=h3}):wpAny T.F.M x.A (mergeMapping D1 (.ref D2) false) Q ff m.s:=
 d1.dct.elim λes1 q1=>d2.dct.elim λes2 q2=>by
  have all:=q1.2.append q2.2
  have z1:es1.length=17:=q1.2.length.trans l1
  refine dD (s:=m.s) (knd:=Dx T.F) hD (Mp T.ok d2.prv.base) (z1▸by decide) q1.1 q2.1 (Iu all hu) (by rw[z1,q2.2.length];exact Ag (Nat.add_le_add_left l2 17) (by rw[sizeLine_eq];decide)) λh3 hd3 hs3=>?_
  have hn:∃o,h3.get? D1=some o:=hd3.elim λo q=>q.elim λη q=>q.elim λη q=>⟨o,q.1⟩
  exact hQ h3 hs3 hn ⟨d1.new,d1.prv.priv hn,es1++es2,hd3,all⟩
section
variable{es:List Expr}{vs:List (Ev Sg)}{ks:List (Option Expr)}(hs:Ot T es vs)(c:Cf x σ){kvs:List (PyData×V)}(mk:Sr x.sc x.ρ ks vs σ kvs σ')(hu:Jj kvs){Q:Value→Shared→Prop}
 (hQ:∀(m:Mo T.F x.b σ') u,Nx c.toMo m→B15 T.F c.h m.g m.h kvs u→Q u m.s)
include hs mk hu hQ
theorem eG(hl:18≤ks.length)(hm:ks.length≤32):wpAny T.F.M x.A (dictDisplay ((Xb ks es x.env p).map x3)) Q ff c.s:=by
 have k1:(ks.take 17).length=17:=List.length_take_of_le (Ag (by decide) hl)
 have k2:(ks.drop 17).length≤15:=by rw[List.length_drop];exact Nat.sub_le_sub_right hm 17
 have k3:(ks.drop 17).length≠0:=by rw[List.length_drop];exact Nat.ne_of_gt (Nat.sub_pos_of_lt hl)
 have hu':Jj (kvs.take 17++kvs.drop 17):=(List.take_append_drop 17 kvs).symm▸hu
 refine(mk.split 17).elim λσ1 m=>?_
 have s1:=m.1.shape x.env p (W0 hs 17).length.symm
 have s2:=m.2.shape x.env p (hs.drop 17).length.symm
 refine(aR (s1.2.trans k1)).elim λp1 q=>q.elim λlast q=>?_
 simp only[Pm x.env p 17 ks es (hs.length.symm.trans mk.len.2) mk.some,q.1,List.append_assoc,List.singleton_append]
 refine mY q.2 (s2.2▸k3) (s2.2▸k2) ?_
 rw[← q.1]
 refine gU (W0 hs 17) c m.1 (N4 hu') k1 λma D1 sa d1=>Pi (hs.drop 17) (c.go ma sa) (uP m.2 (Pe 17 hu)) k2 λmb D2 sb d2=>?_
 refine Yb ⟨d1.new,d1.prv.step sb id,d1.dct.imp λη q=>⟨Ig (λo ho=>sb.keep _ _ ho d1.prv.im id) q.1,Tp sb.gm q.2⟩⟩ d2 (λq=>d1.prv.here.elim λη ho=>Fc d2.new (q▸ho)) hu' (m.1.len.1.trans k1) (Ag (Nat.le_of_eq m.2.len.1) k2) λh3 hs3 hn d=>?_
 exact hQ ⟨h3,mb.t,mb.g,mb.inv.priv (d1.prv.step sb id) hs3⟩ _ ((t0 sa sb).fresh d1.new (.priv hs3 hn)) ⟨mk.len.1▸Ag hm (by decide),D1,rfl,(congrArg (Wi T.F c.h · mb.g h3 D1) (List.take_append_drop 17 kvs)).mp d⟩
theorem Y9(e:oS ks vs x.sc x.ρ σ=some (kvs,σ'))(h0:ks.length≠0)(hl:ks.length≤15):wpAny T.F.M x.A (dictDisplay ((Xb ks es x.env p).map x3)) Q ff c.s:=by
 have sh:=(mk.shape x.env p hs.length.symm).2
 rw[dictDisplay_pairs (Xb ks es x.env p) (λe=>h0 (sh.symm.trans (congrArg List.length e))) (sh▸Nat.lt_of_le_of_lt hl (by decide))]
 exact wpAny_bind (Pi hs c e hl λm D st d=>wpAny_pure (hQ m _ st ⟨mk.len.1▸Ag hl (by decide),D,rfl,d⟩))
end
theorem mZ(c:Cf x σ){kvs:List (PyData×V)}{vs:List (Ev Sg)}(mk:Sr x.sc x.ρ [] vs σ kvs σ'){Q:Value→Shared→Prop}(hQ:∀(m:Mo T.F x.b σ') u,Nx c.toMo m→B15 T.F c.h m.g m.h kvs u→Q u m.s):wpAny T.F.M x.A newDict Q ff c.s:=by
 cases mk
 exact wpAny_bind (wpAny_alloc (wpAny_pure (hQ (c.push L9) _ (Ar _) ⟨Nat.zero_le _,_,rfl,Ap _,Jq (m:=c.toMo),[],J8 c.h,.nil⟩)))
theorem Go.b2e{F:Cc}{b:Shared}{A:Around}{m:Mo F b σ}{α β γ:Type}{R:Gh→Heap→α→β→Prop}{t:Sem β}{o:Option (γ×Sg)}{f:γ→Sg→Option (α×Sg)}(k:∀a s,o=some (a,s)→Go A m R (f a s) t):Go A m R (Mine.b2 o f) t:=
 match o,k with
 |none,_=>trivial
 |some _,k=>k _ _ rfl
theorem bI{es:List Expr}{vs:List (Ev Sg)}{ks:List (Option Expr)}(hs:Ot T es vs)(c:Cf x σ):Go x.A c.toMo (B15 T.F c.h) (evX ks vs x.sc x.ρ σ) (eval (.Dict ks es p) x.env):=.b2e λkvs σ1 e=>.vi λhl Q hQ=>by
 have mk:=Xk e
 rw[arm_eval_Dict,(mk.1.shape x.env p hs.length.symm).1]
 refine wpAny_bind (wpAny_standAt ?_)
 have hl:=mk.1.len.1▸mX hl
 cases ks with
 |nil=>exact mZ c mk.1 hQ
 |cons k ks=>exact hl.2.elim (Y9 hs c mk.1 mk.2 hQ e (λh=>Nat.noConfusion h)) λh=>eG hs c mk.1 mk.2 hQ h hl.1
end
end
section
open PySem PySem.W PySem.Calls PyProof.Rows
noncomputable def Gh.grow(g:Gh)(P Q:Addr):Gh:={g with n:=g.n+1,p:=λk=>if k=g.n then P else g.p k,q:=λk=>if k=g.n then Q else g.q k}
section
variable{F:Cc}{g g0:Gh}{h h0:Heap}{σ:Sg}{P Q:Addr}
theorem D5{k:Nat}(hk:k<g.n):(g.grow P Q).p k=g.p k∧(g.grow P Q).q k=g.q k:=⟨if_neg (Nat.ne_of_lt hk),if_neg (Nat.ne_of_lt hk)⟩
theorem Ca:(g.grow P Q).p g.n=P∧(g.grow P Q).q g.n=Q:=⟨if_pos rfl,if_pos rfl⟩
theorem Mt:Gm g (g.grow P Q):=⟨Nat.le_succ _,λη η e=>e,λη hk=>D5 hk⟩
theorem Jy{k n:Nat}(h:k<n+1):k<n∨k=n:=Nat.lt_or_eq_of_le (Nat.le_of_lt_succ h)
theorem lR{b:Addr}(h:Z6 (g.grow P Q) b):Z6 g b∨b=P∨b=Q:=h.elim λk q=>(Jy q.1).elim (λhk=>.inl ⟨k,hk,(D5 hk).1▸(D5 hk).2▸q.2⟩) λe=>.inr (by
 have z:=q.2
 rw[e,Ca.1,Ca.2]at z
 exact z)
theorem O8(hI:Hb F g σ h)(hP:Hi F g h P)(hQ:Hi F g h Q){m:MO}(hm:P6 F (g.grow P Q) h P Q m):Hb F (g.grow P Q) (σ++[m]) h:=
 {hI with
  size:=(congrArg (· +1) hI.size).trans (List.length_append (as:=σ) (bs:=[m])).symm
  gam:=λa x e=>(hI.gam a x e).imp λη q=>⟨q.1,Ml Mt q.2⟩
  obj:=λk m' e=>(Nat.lt_or_ge k σ.length).elim (λhk=>by
     rw[List.getElem?_append_left hk]at e
     rw[(D5 (hI.size▸hk)).1,(D5 (hI.size▸hk)).2]
     exact Jw Mt (λη e=>e) (λη e=>e) (hI.obj k m' e)) λhk=>by
   have hk2:k=σ.length:=Nat.le_antisymm (Nat.le_of_lt_succ (by have:=(dU e).1;rwa [List.length_append]at this)) hk
   simp only[hk2,List.getElem?_append_right (Nat.le_refl _),Nat.sub_self]at e
   rw[hk2,← hI.size,Ca.1,Ca.2]
   cases e;exact hm
  apart:=λj k hj hk hjk=>(Jy hj).elim (λqj=>(Jy hk).elim (λqk=>by
       rw[(D5 qj).1,(D5 qj).2,(D5 qk).1,(D5 qk).2]
       exact hI.apart j k qj qk hjk) λqk=>by
       rw[qk,Ca.1,Ca.2,(D5 qj).1,(D5 qj).2]
       exact⟨λe=>hP.im ⟨j,qj,.inl e.symm⟩,λe=>hQ.im ⟨j,qj,.inl e.symm⟩,λe=>hP.im ⟨j,qj,.inr e.symm⟩,λe=>hQ.im ⟨j,qj,.inr e.symm⟩⟩) λqj=>(Jy hk).elim (λqk=>by
       rw[qj,Ca.1,Ca.2,(D5 qk).1,(D5 qk).2]
       exact⟨λe=>hP.im ⟨k,qk,.inl e⟩,λe=>hP.im ⟨k,qk,.inr e⟩,λe=>hQ.im ⟨k,qk,.inl e⟩,λe=>hQ.im ⟨k,qk,.inr e⟩⟩) λqk=>absurd (qj.trans qk.symm) hjk
  own:=λb hb=>(lR hb).elim (hI.own b) λq=>q.elim (λe=>by subst e;exact⟨hP.G,hP.base,hP.here⟩) λe=>by subst e;exact⟨hQ.G,hQ.base,hQ.here⟩}
theorem O7(t:De No g0 h0 g h)(hP:h0.get? P=none)(hQ:h0.get? Q=none):De No g0 h0 (g.grow P Q) h:=
 {t with
  n:=Nat.le_succ_of_le t.n
  p:=λk hk=>have q:=D5 (g:=g) (P:=P) (Q:=Q) (Nat.lt_of_lt_of_le hk t.n);⟨q.1.trans (t.p k hk).1,q.2.trans (t.p k hk).2⟩
  pnew:=λk h1 h2=>(Jy h2).elim (λhk=>(D5 (P:=P) (Q:=Q) hk).1.symm▸(D5 (P:=P) (Q:=Q) hk).2.symm▸t.pnew k h1 hk) λe=>e.symm▸⟨Ca.1.symm▸hP,Ca.2.symm▸hQ⟩}
theorem V2(hI:Hb F g σ h):rel (g.grow P Q) (.o σ.length) (.ref P):=hI.size▸⟨Nat.lt_succ_self _,congrArg Value.ref Ca.1.symm⟩
end
section
variable{T:Th}{b:Shared}{σ σ':Sg}{A:Around}{m:Mo T.F b σ}
theorem B49{c n d:Nat}(h:Rm d A){A':Around}(hh:A'.handled=A.handled)(hd:A'.depth≤A.depth+1)(hu:A'.units≤A.units+1):Rc d A':=⟨hh.trans h.handled,by have:=h.depth;omega,by have:=h.units;omega⟩
theorem wD{d:Nat}(h:Rm d A):Rc d A:=B49 (c:=0) (n:=0) h rfl (Nat.le_succ _) (Nat.le_succ _)
theorem X1{M:Model}{c:Code}{s:Shared}{Q:Value→Shared→Prop}(h:codeAny M A c (z9 Q) s){R:Result→Shared→Prop}(f:∀u s',Q u s'→R (.ok (.ret u)) s'):codeAny M A c R s:=codeAny_mono h λr s' z=>by
 rcases r with e|(v|_|_|_)<;>first|exact f _ _ z|exact False.elim z
theorem x8(hA:Rm T.d A){f:Str}{rs:List RV}{us:List Value}(al:A6 (Vv T.F m.g m.h) rs us):Go A m (X2 T.F m.h) (T.w.call f rs σ) (call (.ref (T.F.FV f)) us):=
 .of λrv σ' e Q hQ=>wpAny_call (X1 (T.call f rs σ rv σ' e A b m us (wD hA) al Q λm' u st r=>hQ m' u st r) λη η z=>z)
theorem tK(hA:Rm T.d A){c:Nat}(hc:c<3){rs:List RV}{us:List Value}(al:A6 (Vv T.F m.g m.h) rs us):
  Go A m (X2 T.F m.h) (b1 (T.w.call (J6 c) ((.o σ.length,.cl)::rs) (σ++[.inst c []])) λv η s'=>match isNone v with|true=>some ((.o σ.length,.cl),s')|false=>none) (call (.ref (T.F.Cl c)) us):=.of λrv σ' e=>by
 obtain⟨v,k,σ1,e1,e⟩:=Fm e
 cases en:isNone v<;>rw[en]at e
 ·exact Ao e
 cases e
 have C:=T.ok.cls c hc
 have X:=J4 T.ok m.inv
 let m1:=m.push emptyDict
 let m2:=m1.push (instObj (T.F.Cl c) m.h.objs.size)
 have hsz:m1.h.objs.size=m.h.objs.size+1:=Heap.size_push ..
 have f2:m.h.get? m1.h.objs.size=none:=(Ar (g:=m.g) emptyDict).alive.fresh (Ap m1.h)
 have a1:m2.h.get? m.h.objs.size=some emptyDict:=Dh _ _ _ (Heap.get?_push_size m.h rfl)
 have a2:m2.h.get? m1.h.objs.size=some (instObj (T.F.Cl c) m.h.objs.size):=Heap.get?_push_size m1.h rfl
 have pD:Hi T.F m.g m2.h m.h.objs.size:=.new m.inv (Ap _) ⟨_,a1⟩
 have pI:Hi T.F m.g m2.h m1.h.objs.size:=.new m.inv f2 ⟨_,a2⟩
 have hm:P6 T.F (m.g.grow m1.h.objs.size m.h.objs.size) m2.h m1.h.objs.size m.h.objs.size (.inst c []):=
  ⟨λq=>Nat.succ_ne_self _ (hsz.symm.trans q),a2,λη=>none,⟨emptyDict,#[],_,a1,rfl,(λe he=>absurd he (Array.not_mem_empty _)),λη=>rfl⟩,⟨_,_,_,a1,rfl,rfl,Nat.zero_le _⟩,λx=>rfl⟩
 let m3:Mo T.F b (σ++[.inst c []]):=⟨m2.h,m.t,_,O8 m2.inv pI pD hm⟩
 have s3:Nx m m3:=O7 (t0 (Ar _) (Ar _)) f2 (Ap _)
 have r0:rel m3.g (.o σ.length) (.ref m1.h.objs.size):=V2 m.inv
 refineλQ hQ=>wpAny_call (make_core (makes_of X C.makes) (looks_findIn X C.init) (λself=>bind_fn X self C.initF) (.inl rfl) (X1 (T.call _ _ _ _ _ e1 (A.under (.builtin "type.__call__" ⟨.ref (T.F.Cl c)::us,[]⟩)) b m3 (.ref (m.h.objs.size+1)::us) (B49 (c:=0) (n:=0) hA rfl (Nat.le_refl _) (Nat.le_refl _)) (.cons (hsz▸r0) (al.imp λη η=>o6 s3)) (λu s'=>u=.none∧Q (.ref m1.h.objs.size) s') λm4 u s4 r=>?_) λu s' z=>?_))
 ·refine⟨?_,hQ m4 _ (t0 s3 s4) (Bk s4 r0)⟩
  cases k with
  |cl=>exact Mi (m:=m4) en (.inl r)
  |fr=>exact Mi (m:=m4) en (.inr r.1)
  |al=>exact r.elim
 ·exact⟨z.1,hsz▸z.2⟩
end
end
section
open PySem PySem.W PySem.Calls PyProof.Rows
section
variable{T:Th}{p:Pos}{x:Ex T}{σ σ':Sg}
noncomputable def vT(F:Cc)(fv:Value):Prop:=keepIn F.K fv=true∨(∃i,fv=.builtin i)∨∃C,fv=.type C
theorem Hm{es:List Expr}{vs:List (Ev Sg)}(h:Ot T es vs)(env:Env):∀{sc:Scope}{ρ:A1}{s:Sg}{r:List RV×Sg},Mu vs sc ρ s=some r→starEach es env=es.map λe=>(false,eval e env):=by
 induction h with
 |nil=>exactλη=>rfl
 |cons h1 _ ih=>
  intro sc ρ s r e
  refine Ac λX hX=>?_
  obtain⟨w,k,s1,e1,e⟩:=Fm e
  obtain⟨rs,s2,e2,_⟩:=Av e
  refine hX ?_
  exact h1.2.elim (λhs=>(hs.1 _ env).trans (congrArg (List.cons _) (ih e2))) λhn=>Ao ((hn sc ρ s).symm.trans e1)
theorem Jm{es:List Expr}{env:Env}{pos:Pos}:(backTo pos (es.map λe=>(false,eval e env))).any (·.1)=false:=by
 induction es with
 |nil=>rfl
 |cons e es ih=>exact ih
theorem v6{A:Around}{es:List Expr}{env:Env}{fv:Value}(hf:vT T.F fv){first:List Value}{Q:Value→Shared→Prop}{s:Shared}(hn:es=[]→T.F.K.In s.heap∧wpAny T.F.M A (call fv (first++[])) Q ff s)
  (h:wpAny T.F.M A (spliced (backTo p (es.map λe=>(false,eval e env)))) (λus s'=>T.F.K.In s'.heap∧wpAny T.F.M A (call fv (first++us)) Q ff s') ff s):wpAny T.F.M A (callWith p fv first (backTo p (es.map λe=>(false,eval e env))) []) Q ff s:=by
 have ev:wpAny T.F.M A (evalArgs fv true (backTo p (es.map λe=>(false,eval e env))) []) (λa s'=>T.F.K.In s'.heap∧wpAny T.F.M A (call fv (first++a.pos) a.kw) Q ff s') ff s:=by
  cases es with
  |nil=>refine evalArgs_nil3 ?_;exact hn rfl
  |cons=>refine evalArgs_plain ?_;exact h
 rcases hf with hk|⟨i,rfl⟩|⟨C,rfl⟩
 ·exact callWith_of (by rw[Jm];rfl) (keeps_K hk) ev
 ·exact callWith_builtin Jm (wpAny_mono ev (λη η z=>z.2) λη η z=>z)
 ·exact PySem.callWith_type Jm (wpAny_mono ev (λη η z=>z.2) λη η z=>z)
theorem bJ{es:List Expr}{vs:List (Ev Sg)}(hs:Ot T es vs)(c:Cf x σ){fv:Value}(hf:vT T.F fv){first:List Value}{γ:Type}{R:Gh→Heap→γ→Value→Prop}{f:List RV→Sg→Option (γ×Sg)}
  (k:∀rs σ'(m:Mo T.F x.b σ') us,Nx c.toMo m→Ou x m.g m.h rs us→Go x.A m R (f rs σ') (call fv (first++us))):Go x.A c.toMo R (b2 (Mu vs x.sc x.ρ σ) f) (callWith p fv first (backTo p (starEach es x.env)) []):=.of λa s e=>(Av e).elim λrs q=>q.elim λσ1 q=>by
 have row:=Y6 hs p x c
 simp only[Hm hs x.env q.1,q.1]at row
 rw[Hm hs x.env q.1]
 refineλQ hQ=>v6 hf (λen=>⟨J4 T.ok c.inv,?_⟩) (row _ λm us st al=>⟨J4 T.ok m.inv,(q.2▸k rs σ1 m us st al:Go x.A m R (some (a,s)) _) Q λm2 u st2 r=>hQ m2 u (t0 st st2) r⟩)
 cases en
 cases hs
 cases q.1
 exact(q.2▸k _ _ c.toMo _ .refl .nil:Go x.A c.toMo R (some (a,s)) _) Q hQ
theorem Qt{g:Gh}{h:Heap}{rs:List RV}{us:List Value}(al:Ou x g h rs us):A6 (Vv T.F g h) rs us:=al.imp λη η=>G9.arg
theorem n6{v:V}{y:PyData}(h:n7 v=some y):v=.d y:=match v,h with
 |.d _,h=>congrArg V.d (Cd h)
theorem A89{r:RV}{y:PyData}(h:C17 r=some y):r=(.d y,.cl):=match r,h with
 |(.d _,.cl),h=>congrArg (λy=>(V.d y,Kd.cl)) (Cd h)
theorem V4{g:Gh}{o:Option V}{u:Option Value}{d:V}{ud:Value}(r:oL g o u)(rd:rel g d ud):rel g (o.getD d) (u.getD ud):=by
 cases o<;>cases u<;>first|exact rd|exact r|exact False.elim r
theorem uA{m:Mo T.F x.b σ}{rs:List RV}{us:List Value}(al:Ou x m.g m.h rs us){q:PyData×PyData}{P:List Value→Prop}(hq:C06 rs=some q)(K:∀uk ud,Vw T.F m.g m.h (.d q.1) uk→rel m.g (.d q.2) ud→P [uk,ud]):P us:=by
 rcases al with _|⟨r1,_|⟨r2,_|_⟩⟩<;>try exact Ao hq
 refine Ac λXz hXz=>?_
 obtain⟨k,e1,hq⟩:=A4 hq
 obtain⟨d,e2,hq⟩:=A4 hq
 cases hq
 refine hXz ?_
 exact K _ _ (n6 e1▸G9.vw r1) (A89 e2▸r2:G9 x m.g m.h (.d _,.cl) _)
noncomputable def vS(m:Mo T.F x.b σ)(k d:PyData)(u uk ud:Value)(v:V):Prop:=Go x.A m (Cu T.F m.h) (o1 (C05 v k d σ) λr=>some (r,σ)) (call (.builtin "dict.get") [u,uk,ud])
section
variable{m:Mo T.F x.b σ}{k d:PyData}{u uk ud:Value}(hk:Vw T.F m.g m.h (.d k) uk)(rd:rel m.g (.d d) ud)
include hk rd
theorem C04{kvs:List (PyData×PyData)}(hv:Vw T.F m.g m.h (.d (.dict kvs)) u):vS m k d u uk ud (.d (.dict kvs)):=.vif λhik=>(Ra hik).elim λc hkey=>hv.dctE T.ok m.inv (P:=λu=>Go _ m _ _ (call _ [u,uk,ud])) λa es hd al hs=>
 .leaf λη hQ=>call_meetsIn PySem.F.slot_dict_get hd.typeIs PySem.F.entry_dict_get (PySem.F.args_dict_get_3 _ _ _) (meets_dict_get_default (Dx T.F) a (N2 hkey hk) hs ud) ⟨_,hd.mapOf,hQ _ _ ((Option.getD_map ..).symm.trans (congrArg (Option.getD · (V.d d)) (Yc k kvs).symm)▸V4 (Xc hkey al) rd:rel m.g (.d ((Lb k kvs).getD d)) ((valueAt es c).getD ud))⟩
theorem C03{n:Nat}(hv:Vw T.F m.g m.h (.o n) u):vS m k d u uk ud (.o n):=hv.oE (P:=λu=>vS m k d u uk ud _) λhn=>Xl (P:=λo=>Go _ m _ (o1 o _) _) trivial λes e=>.vif λhik=>
 Qr T.ok m.inv e hik hk (P:=λuk=>Go _ m _ _ (call _ [_,uk,ud])) λp xs h2 hD q=>
  .leaf λη hQ=>call_meetsIn PySem.F.slot_dict_get hD.typeIs PySem.F.entry_dict_get (PySem.F.args_dict_get_3 _ _ _) (meetsH_dict_get_default (Er T.F.prog T.F.w) (m.g.p n) p (aE T.ok m.inv hn) ud) ⟨pL x.hA,k,xs,h2,hD,hQ _ _ (V4 q rd)⟩
theorem C02{v:V}(hv:Vw T.F m.g m.h v u):vS m k d u uk ud v:=by
 cases v with
 |o=>exact C03 hk rd hv
 |d y=>cases y<;>first|exact C04 hk rd hv|exact trivial
end
theorem A44{m:Mo T.F x.b σ}{v:V}{u:Value}(hv:Vw T.F m.g m.h v u){rs:List RV}{us:List Value}(al:Ou x m.g m.h rs us):Go x.A m (Cu T.F m.h) (o1 (B87 v rs σ) λr=>some (r,σ)) (call (.builtin "dict.get") ([u]++us)):=
 .oa (.vo λq hq=>uA al (P:=λus=>Go _ m _ _ (call _ ([u]++us))) hq λη η hk rd=>C02 hk rd hv)
noncomputable def mvM(F:Cc):Option Str→Value
 |some f=>.ref (F.FV f)
 |none=>.builtin "dict.get"
theorem mB{A:Around}{b:Shared}{m:Mo T.F b σ}{a:Addr}{o:Obj}(ho:m.h.get? a=some o)(hx:o.ExactDict){pl:Sem Bool}{Q:Value×List Value→Shared→Prop}(h:Q (.builtin "dict.get",[.ref a]) m.s):wpAny T.F.M A (getMethod (.ref a) "get" pl) Q ff m.s:=
 getMethod_builtin (s:=m.s) ⟨o,ho,hx.1⟩ PySem.F.plainAttrs_dict PySem.F.slot_dict_get PySem.F.type_dict_get (λb e=>⟨o,Value.ref.inj e▸ho,hx.2.1⟩) h
structure oG(A:Around){b:Shared}(m:Mo T.F b σ)(a:Str)(v:V)(u:Value)(mt:Option Str):Prop where
 get:∀pl Q,Q (mvM T.F mt,[u]) m.s→wpAny T.F.M A (getMethod u a pl) Q ff m.s
 fv:vT T.F (mvM T.F mt)
 fn:∀f,mt=some f→rel m.g v u
section
variable{A:Around}{b:Shared}{m:Mo T.F b σ}{a:Str}{v:V}{mt:Option Str}{u:Value}{n:Nat}
theorem Zv{p:Addr}{o:Obj}(ho:m.h.get? p=some o)(hx:o.ExactDict)(e:iB (sq a "get") (some none)=some mt):oG A m a v (.ref p) mt:=by
 have e:=B7 e
 cases e.2
 exact⟨λpl Q h=>Bm.mp e.1▸mB ho hx h,.inr (.inl ⟨_,rfl⟩),nofun⟩
theorem iP(hn:n<m.g.n){c:Nat}{fs:List (Str×V)}(e0:σ[n]?=some (.inst c fs))(e:iB (Nat.blt c 3&&(lk a fs).isNone) (o1 (R6 c a) λf=>some (some f))=some mt):oG A m a (.o n) (.ref (m.g.p n)) mt:=by
 have e:=B7 e
 have hc:=Ab e.1
 refine(A4 e.2).elim λf z=>Cd z.2▸(Rg (m.inv.obj n _ e0)).elim λod q=>q.elim λmm hi=>?_
 have C:=T.ok.cls c (A94 hc.1)
 have M:=C.meth a f z.1
 have hx:=hi.2.2.2 a
 rw[Option.isNone_iff_eq_none.mp hc.2]at hx
 exact⟨λpl Q h=>method_fn (s:=m.s) (J4 T.ok m.inv) hi.1 C.ga C.gk M.2.1 M.2.2.1 (congrArg (Option.map Option.isSome) hx.2) h,.inl M.2.2.2,λη η=>⟨hn,rfl⟩⟩
theorem qW(e:zE a v σ=some mt)(hv:Vw T.F m.g m.h v u):oG A m a v u mt:=by
 cases v with
 |d y=>
  cases y<;>first|exact Ao e|exact hv.dctE T.ok m.inv (P:=λu=>oG A m a _ u mt) λp es hd η η=>hd.elim λo q=>q.elim λη q=>q.elim λη q=>Zv q.1 q.2.1 e
 |o n=>
  refine hv.oE (P:=λu=>oG A m a _ u mt) λhn=>?_
  replace e:(match σ[n]? with|some (.inst c fs)=>iB (Nat.blt c 3&&(lk a fs).isNone) (o1 (R6 c a) λf=>some (some f))|some (.dct _)=>iB (sq a "get") (some none)|_=>none)=some mt:=e
  cases e0:σ[n]? with
  |none=>rw[e0]at e;exact Ao e
  |some mo=>
   rw[e0]at e
   cases mo<;>first|exact iP hn e0 e|exact Ao e|exact(m.inv.obj n _ e0).2.elim λxs q=>q.1.elim λo q=>q.elim λη q=>Zv q.1 q.2.1 e
end
end
end
section
open PySem PySem.W PySem.Calls PyProof.Rows
section
variable{T:Th}{p:Pos}{x:Ex T}{σ σ':Sg}
theorem Ga{sc:Scope}{f:Str}(h:Nz sc f=true):lk f sc.names=some .globalImplicit:=by
 replace h:(match lk f sc.names with|some .globalImplicit=>true|_=>false)=true:=h
 cases e:lk f sc.names with
 |none=>rw[e]at h;exact Bool.noConfusion h
 |some k=>rw[e]at h;cases k<;>first|rfl|exact Bool.noConfusion h
theorem Oe{f:Str}{c:Nat}{init:Str}(h:Kc f=some (c,init)):c<3∧init=J6 c:=
 have z:=Ab (Be (by decide +kernel:v8.all (λp=>Nat.blt p.2.1 3&&sq p.2.2 (J6 p.2.1))=true) _ (Fr h))
 ⟨Vp z.1,Bm.mp z.2⟩
theorem C22{F:Cc}(k:Bl):vT F (Sa k):=match k with
 |.tup=>.inr (.inr ⟨_,rfl⟩)
 |.len=>.inr (.inl ⟨_,rfl⟩)
 |.all=>.inr (.inl ⟨_,rfl⟩)
 |.any=>.inr (.inl ⟨_,rfl⟩)
 |.srt=>.inr (.inl ⟨_,rfl⟩)
set_option tactic.hygienic true in
set_option backward.match.sparseCases true in
theorem m8{f:Str}{q:Pos}{es:List Expr}{vs:List (Ev Sg)}(hs:Ot T es vs)(c:Cf x σ)(hg:lk f x.sc.names=some .globalImplicit):P2 c (b2 (Mu vs x.sc x.ρ σ) λrs s=>callV T.I p f rs s) (eval (.Call (.Name f q) es [] p) x.env):=by
 have name:∀{fv:Value},T.F.mg f=some fv∨Zc T.F f fv→∀Q,wpAny T.F.M x.A (callWith p fv [] (backTo p (starEach es x.env)) []) Q ff c.s→wpAny T.F.M x.A (eval (.Call (.Name f q) es [] p) x.env) Q ff c.s:=λhv Q z=>Call_Name rfl (Ez c hg hv z)
 unfold callV
 cases e1:nT f with
 |some k=>exact .rl (name (.inr (T.ok.blt f k e1))) (bJ hs c (C22 k) λrs σ' m us st al=>.oa (.new st.alive (by
   rcases al with _|⟨r1,_|_⟩<;>try exact trivial
   rename_i r u
   exact A51 T.ok x.hA (v:=r.1) (G9.vw (k:=r.2) r1))))
 |none=>
  cases e2:Kc f with
  |some ci=>
   obtain⟨ci,init⟩:=ci
   obtain⟨hc,rfl⟩:=Oe e2
   have hk:=T.ok.clsG f ci _ e2
   exact .rl (name (.inl hk.1)) (bJ hs c (.inl hk.2) λrs σ' m us st al=>.new st.alive (tK x.hA hc (Qt al)))
  |none=>
   exact Go.of λa s e=>by
    refine Ac λXz hXz=>?_
    obtain⟨_,_,_,e0⟩:=Av e
    refine hXz ?_
    have hk:=T.ok.fns f (B7 e0).1
    exact e▸Go.rl (name (.inl hk.1)) (bJ hs c (.inl hk.2) λrs σ' m us st al=>.vi λη=>.new st.alive (x8 x.hA (Qt al)))
theorem A42{m:Mo T.F x.b σ}{v:V}{u:Value}:Vw T.F m.g m.h v u→Go x.A m (Cu T.F m.h) (o1 (B86 v) λr=>some (r,σ)) (call (.builtin "isinstance") [u,.type "str"]):=by
 refine V.casesOn v (λy=>?_) λη η=>trivial
 refine PyData.casesOn y (λη=>trivial) (λη η=>trivial) (λi r=>?_) (λi r=>?_) (λη η=>trivial) (λη η=>trivial) λη η=>trivial
 ·exact(r.scal rfl).elim λt e=>e▸.leaf λη q=>IsiPair.int_str (q _ _ rfl)
 ·exact(r.scal rfl).elim λt e=>e▸.leaf λη q=>IsiPair.str_str (q _ m.t rfl)
theorem C39{e:Expr}{y:Str}(h:C2 e=some y):e=.Name y e.pos:=(Bq h).elim λη q=>q▸rfl
theorem dM{es:List Expr}{t:Str×Pos}(h:B89 es=some t):∃e p2,es=[e,.Name t.1 p2]:=by
 obtain⟨z,q1,h⟩:=A4 h
 obtain⟨y,q2,h⟩:=A4 h
 have ez:es=[z.1,z.2]:=by
  rcases es with _|⟨a,_|⟨b,_|_⟩⟩<;>first|exact Ao q1|(cases q1;rfl)
 exact(Bq q2).elim λp2 e=>⟨z.1,p2,ez.trans (Cd h▸e▸rfl)⟩
theorem A50{f:Str}{q:Pos}{es:List Expr}{vs:List (Ev Sg)}(hs:Ot T es vs)(c:Cf x σ)(hg:lk f x.sc.names=some .globalImplicit)(hf:sq f "isinstance"=true):P2 c (evS T.I es vs x.sc x.ρ σ) (eval (.Call (.Name f q) es [] p) x.env):=by
 refine .vo λt ht=>?_
 obtain⟨e,p2,rfl⟩:=dM ht
 obtain⟨v,v2,rfl,h1,h2⟩:=hs.two_inv
 refine .vi λhb=>?_
 have hb:=Ab hb
 have et:=Bm.mp hb.2
 rw[et]at hb⊢
 rcases h1.2 with hs|hn
 ·have hst:starEach [e,.Name "str" p2] x.env=[(false,eval e x.env),(false,eval (.Name "str" p2) x.env)]:=(hs.1 _ _).trans rfl
  refine Go.of λa s e0=>?_
  have hv:=h1.1.val x σ c
  refine Ac λXz hXz=>?_
  obtain⟨w,k,σ1,e1,e2⟩:=Fm e0
  refine hXz ?_
  rw[e1]at hv
  obtain⟨r',e3,e2⟩:=A4 e2
  cases e2
  intro Q hQ
  refine Call_Name rfl (Ez c hg (.inr (Bm.mp hf▸T.ok.isi)) (callWith_builtin (by rw[hst];rfl) ?_))
  have key:wpAny T.F.M x.A (spliced (backTo p (starEach [e,.Name "str" p2] x.env))) (λus s'=>wpAny T.F.M x.A (call (.builtin "isinstance") ([]++us) []) Q ff s') ff c.s:=wpAny_items_cons (hv _ λm u st r=>wpAny_items_cons (Ez (c.go m st) (Ga hb.1) (.inr T.ok.strT) (wpAny_items_nil (by
   have z:=Go.new st.alive (A42 (x:=x) (m:=m) r.vw)
   rw[e3]at z
   exact z Q λm2 u2 st2 r2=>hQ m2 u2 (t0 st st2) r2))) rfl) (hs.1 _ _)
  rw[hst]at key⊢
  exact evalArgs_plain key
 ·rw[hn];trivial
theorem T9{es:List Expr}{env:Env}{pos:Pos}:(backTo pos (es.map λe=>(false,eval e env))).all (λz=>!z.1)=true:=by
 induction es with
 |nil=>rfl
 |cons e es ih=>exact ih
theorem Pw{q r:Pos}{n:Nat}(h:J1 q r n=true):q.endLine=r.line∧n<29:=have h:=Ab h;⟨eq_of_beq h.1,Nat.le_of_ble_eq_true h.2⟩
theorem m9{e:Expr}{v:Ev Sg}{a:Str}{q:Pos}{es:List Expr}{vs:List (Ev Sg)}(hv:SEv T e v)(hs:Ot T es vs)(c:Cf x σ)(hp:C5 e=true→∀a env w,attributeBase e a env w=w):
  P2 c (iB (C5 e&&J1 q p es.length) (b1 (v.val x.sc x.ρ σ) λv η s=>o1 (zE a v s) λmt=>b2 (Mu vs x.sc x.ρ s) λrs s=>callM T.I p mt v rs s)) (eval (.Call (.Attribute e a q) es [] p) x.env):=.vi λhb=>.of λr s' e0=>by
 have hb:=Ab hb
 have hl:=Pw hb.2
 refine Ac λXz hXz=>?_
 obtain⟨w,k,σ1,e1,e0⟩:=Fm e0
 obtain⟨mt,e2,e0⟩:=A4 e0
 refine hXz ?_
 have h1:=hv.val x σ c
 rw[e1]at h1
 have star:starEach es x.env=es.map λe=>(false,eval e x.env):=by
  refine Ac λXz hXz=>?_
  obtain⟨rs,s2,e3,_⟩:=Av e0
  refine hXz ?_
  exact Hm hs x.env e3
 have hform:methodCallForm (es.length+([]:List Keyword).length) (backTo p (starEach es x.env)) (backToKw p (keywordEach [] x.env))=true:=by
  rw[star]
  unfold methodCallForm
  exact(T9).symm▸decide_eq_true (Nat.lt_of_lt_of_le hl.2 (by decide))
 have hpos:methodCallPos true e x.env q p=pure p:=by
  unfold methodCallPos
  rw[hl.1,beq_self_eq_true];rfl
 intro Q hQ
 simp only[arm_eval_Call,hp hb.1]
 refine wpAny_bind (h1 _ λm u st r1=>wpAny_bind (wpAny_standAt ?_))
 have pm:=qW (A:=x.A) e2 r1.vw
 unfold methodCall
 rw[hform]
 refine wpAny_bind (wpAny_holding (m:=calleeOf _ _ _ _ _) ?_)
 unfold calleeOf
 refine pm.get _ _ (wpAny_bind (wpAny_of_eq hpos ?_))
 have z:Go x.A m (Lh x c.h) (b2 (Mu vs x.sc x.ρ σ1) λrs s=>callM T.I p mt w rs s) (callWith p (mvM T.F mt) [u] (backTo p (starEach es x.env)) []):=.up st (bJ hs (c.go m st) pm.fv λrs σ' m2 us st2 al=>match mt,pm with
  |some f,pm=>.new st2.alive (x8 x.hA (.cons (Bk st2 (pm.fn f rfl)) (Qt al)))
  |none,_=>.new st2.alive (A44 (r1.vw.step st2) al))
 rw[e0]at z
 exact z Q λm2 u2 st2 r2=>hQ m2 u2 (t0 st st2) r2
end
end
section
open PySem PySem.W PySem.Calls PyProof.Rows
inductive OE(T:Th):Option Expr→Option (Ev Sg)→Prop
 |none:OE T none none
 |some {e:Expr} {v:Ev Sg}:SEv T e v→OE T (some e) (some v)
section
variable{T:Th}{p:Pos}{x:Ex T}{σ σ':Sg}
noncomputable def C31(_:Gh)(_:Heap)(r:Option Int)(u:Value):Prop:=IsPart u r
theorem bE{e:Option Expr}{v:Option (Ev Sg)}(h:OE T e v)(c:Cf x σ):Go x.A c.toMo C31 (evO v x.sc x.ρ σ) (evalPart e x.env):=by
 induction h with
 |none=>exactλQ hQ=>wpAny_evalPart_none (hQ c.toMo _ .refl .none)
 | @some e v h=>
  refine Go.of λa s e0=>?_
  have h1:=h.val x σ c
  refine Ac λXz hXz=>?_
  obtain⟨w,k,s1,e1,e0⟩:=Fm e0
  obtain⟨i,e2,e0⟩:=A4 e0
  refine hXz ?_
  cases e0
  rw[e1]at h1
  refineλQ hQ=>wpAny_evalPart_some (h1 Q λm u st r=>hQ m u st ?_)
  have r:=r.vw
  cases w with
  |o=>exact Ao e2
  |d y=>
   cases y<;>first|exact Ao e2|skip
   cases e2
   exact(r.scal rfl).elim λt e=>e▸.int _ t
theorem i5{M:Model}{A:Around}{E:Value→Shared→Prop}{s:Shared}{env:Env}{lo hi st:Option Expr}{q p:Pos}{base:Expr}{uo:Value}{Q:Value→Shared→Prop}
  (h:wpAny M A (evalPart lo env >>=λl=>evalPart hi env >>=λu=>evalPart st env >>=λt=>newObj (.type "slice") (.fields #[l,u,t]) >>=λi=>standAt p >>=λη=>subscriptTail base (.Slice lo hi st q) uo i) Q E s):wpAny M A (N8 base (.Slice lo hi st q) env p uo) Q E s:=λΓ p hΓ=>by
 have:=h Γ p hΓ
 unfold N8
 rw[arm_eval_Slice]
 unfold subscriptTail evalPart at this
 simp only[Sem.wp_bind',Sem.wp_holding]at this⊢
 exact this
theorem Go.psh{F:Cc}{b:Shared}{A:Around}{α β:Type}{m:Mo F b σ}{R:Gh→Heap→α→β→Prop}{o:Obj}{op:Option (α×Sg)}{t t':Sem β}(rule:∀Q,wpAny F.M A t Q ff (m.push o).s→wpAny F.M A t' Q ff m.s)(h:Go A (m.push o) R op t):Go A m R op t':=
 match op,h with
 |none,_=>trivial
 |some _,h=>λQ hQ=>rule Q (h Q λm2 u st r=>hQ m2 u (t0 (Ar o) st) r)
theorem lU{lo hi st:Option Expr}{lo' hi' st':Option (Ev Sg)}(h1:OE T lo lo')(h2:OE T hi hi')(h3:OE T st st')(c:Cf x σ){v:V}{uo:Value}(hv:Vw T.F c.g c.h v uo){base:Expr}{q p':Pos}:
  P2 c (b2 (evO lo' x.sc x.ρ σ) λlo s=>b2 (evO hi' x.sc x.ρ s) λhi s=>evH T.I st' v lo hi p x.sc x.ρ s) (N8 base (.Slice lo hi st q) x.env p' uo):=
 .rl (λη=>i5) ((bE h1 c).v2 λl η m1 ul st1 pl=>(bE h2 (c.go m1 st1)).v2 λh η m2 uh st2 ph=>by
  have s2:=t0 st1 st2
  cases h3 with
  |none=>exact .rl (λη z=>wpAny_bind (wpAny_evalPart_none z)) (.psh (o:=Na ul uh .none) (λη z=>wpAny_bind (wpAny_newObj_type z)) (.at' (.new s2.alive (A35 T.ok pl ph (hv.step s2)))))
  | @some e w h3=>exact(h3.val x _ (c.go m2 s2)).v1 λw k η m3 us st3 r3=>.psh (o:=Na ul uh us) (λη z=>wpAny_bind (wpAny_newObj_type z)) (.at' (.new (t0 s2 st3).alive (A36 T.ok pl ph (hv.step (t0 s2 st3)) r3.vw))))
end
end
section
open PySem PySem.W PySem.Calls PyProof.Rows
noncomputable def Ec:List String:=["list_iterator","tuple_iterator","dict_keyiterator","range_iterator"]
structure B06(F:Cc)(A:Around)(g:Gh)(h:Heap)(xs:List PyData)(u:Value)(I:Addr)(fp:List Addr)(P:Nat→Value→Prop)(St:Nat→Heap→Prop):Prop where
 W:Walks F.prog F.w A I fp [I] xs.length P St
 here:∀i h,St i h→∃o n,h.get? I=some o∧o.cls=.type n∧n∈Ec
 item:∀i v,P i v→i<xs.length→∃x,xs[i]?=some x∧Bp g x v
 prv:Hi F g h I
 foot:∀b∈fp,b=I∨u=.ref b
noncomputable def ItU(F:Cc)(A:Around)(n:Heap)(g:Gh)(h:Heap)(xs:List PyData)(u:Value)(w:Value):Prop:=
 ∃I fp P St,w=.ref I∧n.get? I=none∧B06 F A g h xs u I fp P St∧St 0 h∧xs.length≤I1
section
variable{F:Cc}{b:Shared}{σ:Sg}{A:Around}{m:Mo F b σ}{d:Nat}
theorem Rw{I a:Addr}:∀b∈[I,a],b=I∨Value.ref a=.ref b:=λb hb=>(Mw hb).imp id λh=>(congrArg Value.ref (Hd h)).symm
theorem C41{I a:Addr}{i:Nat}{h:Heap}{n:String}{C:Prop}(hn:n∈Ec)(o:∃o,h.get? I=some o∧o.cls=.type n∧C):∃o n,h.get? I=some o∧o.cls=.type n∧n∈Ec:=o.elim λo q=>⟨o,n,q.1,q.2.1,hn⟩
theorem bH(hF:Am F)(hA:Rm d A){v:V}{u:Value}:Vw F m.g m.h v u→Go A m (λg h xs w=>ItU F A m.h g h xs u w) (o1 (Nw v) λxs=>some (xs,σ)) (pyIter u):=by
 refine V.casesOn v (λx=>?_) λη η=>trivial
 refine PyData.casesOn x (λη=>trivial) (λη η=>trivial) (λη η=>trivial) (λη η=>trivial) (λxs hv=>?_) (λxs hv=>?_) λkvs hv=>?_
 ·obtain⟨hc,a,vs,n,rfl,ho,al,_⟩:=hv.lst hF m.inv
  have hl:m.h.IsList a vs:=⟨_,ho,rfl,n,rfl⟩
  have hI:=Heap.get?_push_size m.h (o:={cls:=.type "list_iterator",data:=.fields #[.ref a,.int 0 0]}) rfl
  exactλQ hQ=>wpAny_pyIter_list (s:=m.s) hl (hQ (m.push _) _ (Ar _) ⟨m.h.objs.size,[m.h.objs.size,a],λi v=>vs[i]?=some v,λi h=>h.IsListIter m.h.objs.size a i∧h.IsList a vs,rfl,Ap _,
   ⟨B6 al▸Walks.list hA.handled _ a (Nat.ne_of_lt (Heap.lt_size ho)) vs,λi h st=>st.1.elim λo q=>⟨o,_,q.1,q.2.1,.head _⟩,λi v hp η=>al.get_r ((Array.getElem?_toList ..).trans hp),.new m.inv (Ap _) ⟨_,hI⟩,Rw⟩,⟨⟨_,hI,rfl,rfl⟩,hl.push _⟩,hc⟩)
 ·obtain⟨hc,a,vs,n,rfl,ho,al,_⟩:=hv.tup hF m.inv
  have hl:m.h.IsTuple a vs:=⟨_,ho,rfl,n,rfl⟩
  have hI:=Heap.get?_push_size m.h (o:={cls:=.type "tuple_iterator",data:=.fields #[.ref a,.int 0 0]}) rfl
  exactλQ hQ=>wpAny_pyIter_tuple (s:=m.s) hl (hQ (m.push _) _ (Ar _) ⟨m.h.objs.size,[m.h.objs.size,a],λi v=>vs[i]?=some v,λi h=>h.IsTupleIter m.h.objs.size a i∧h.IsTuple a vs,rfl,Ap _,
   ⟨B6 al▸Walks.tuple hA.handled _ a (Nat.ne_of_lt (Heap.lt_size ho)) vs,λi h st=>st.1.elim λo q=>⟨o,_,q.1,q.2.1,.tail _ (.head _)⟩,λi v hp η=>al.get_r ((Array.getElem?_toList ..).trans hp),.new m.inv (Ap _) ⟨_,hI⟩,Rw⟩,⟨⟨_,hI,rfl,rfl⟩,⟨_,Dh _ _ _ ho,rfl,n,rfl⟩⟩,hc⟩)
 ·refine Ac λXz hXz=>?_
  obtain⟨hc,a,es,rfl,⟨o,es',ep,hat⟩,al,hs⟩:=hv.dct hF m.inv
  refine hXz ?_
  have hl:es.length=kvs.length:=al.length.trans (List.length_map ..)
  have hat:m.h.DictAt (Dx F) a es ep:=⟨o,es',hat⟩
  have hk:es.length=(kvs.map (·.1)).length:=hl.trans (List.length_map ..).symm
  have hI:=Heap.get?_push_size m.h (o:={cls:=.type "dict_keyiterator",data:=.fields #[.ref a,.int 0 0,.int es.length 0,.int ep 0]}) rfl
  exactλQ hQ=>wpAny_pyIter_dict (s:=m.s) hs hat (hQ (m.push _) _ (Ar _) ⟨m.h.objs.size,[m.h.objs.size,a],λi v=>∃k x,es[i]?=some (k,x)∧(Dx F).is k v=true,λi h=>h.IsKeyIter m.h.objs.size a i es.length ep∧h.DictAt (Dx F) a es ep,rfl,Ap _,
   ⟨hk▸Walks.dictKeys (knd:=Dx F) hA.handled _ a (hat.elim λo q=>q.elim λη q=>Nat.ne_of_lt (Heap.lt_size q.1)) es ep,λi h st=>st.1.elim λo q=>⟨o,_,q.1,q.2.1,.tail _ (.tail _ (.head _))⟩,
    λi v hp η=>hp.elim λk q=>q.elim λy q=>(al.get_r q.1).elim λkv z=>⟨kv.1,(by
     have z1:=z.1
     simp only[dV,List.getElem?_map]at z1
     rw[List.getElem?_map]
     cases e:kvs[i]? with
     |none=>rw[e]at z1;exact Ao z1
     |some p=>rw[e]at z1;exact congrArg some (congrArg Prod.fst (Cd z1))),aT z.2.1 q.2⟩,.new m.inv (Ap _) ⟨_,hI⟩,Rw⟩,⟨⟨_,hI,rfl,rfl⟩,hat.push _⟩,Ag (Nat.le_of_eq (List.length_map ..)) hc⟩)
end
end
section
open PySem PySem.W PySem.Calls PyProof.Rows
noncomputable abbrev Nms:=List (Str×NameKind)
noncomputable def M6(env:Env):Nms→List (Str×Addr)→List (Str×Addr)
 |[],acc=>acc
 |(n,k)::r,acc=>M6 env r (match k==NameKind.free with|true=>(n,(env.cells.lookup n).getD 0)::acc|false=>acc)
noncomputable def Sv(env:Env)(names:Nms):Prop:=∀p∈names,(p.2==NameKind.free)=true→∃c,env.cells.lookup p.1=some c
theorem eO(env:Env)(names:Nms):∀(acc:List (Str×Addr)),Sv env names→
  (forIn names acc λ(x:Str×NameKind)(r:List (Str×Addr))=>(if(x.2==NameKind.free)=true then do let c ← cellOf env x.1;pure (ForInStep.yield ((x.1,c)::r))else pure (ForInStep.yield r):Sem (ForInStep (List (Str×Addr)))))=pure (M6 env names acc):=by
 induction names with
 |nil=>exactλη η=>rfl
 |cons x r ih=>
  intro acc h
  obtain⟨n,k⟩:=x
  have ih:=λacc=>ih acc λp hp=>h p (.tail _ hp)
  rw[List.forIn_cons]
  show _=pure (M6 env r (match k==NameKind.free with|true=>(n,(env.cells.lookup n).getD 0)::acc|false=>acc))
  cases hk:k==NameKind.free
  ·rw[if_neg Bool.false_ne_true,pure_bind];exact ih _
  ·obtain⟨c,hc⟩:=h _ (.head _) hk
   have e1:cellOf env n=pure c:=by unfold cellOf;rw[hc]
   rw[if_pos rfl,e1,hc]
   exact ih _
theorem Yj{env:Env}{sc:Scope}(h:Sv env sc.names):closureFor sc env=pure (M6 env sc.names []):=by
 exact(bind_pure _).trans (eO env sc.names [] h)
theorem Q7{env:Env}{y:Str}{c:Addr}:∀{names:Nms}{acc:List (Str×Addr)},Sv env names→(acc.lookup y=some c→env.cells.lookup y=some c)→(M6 env names acc).lookup y=some c→env.cells.lookup y=some c
 |[],acc,_,ha=>ha
 |(n,k)::r,acc,h,ha=>by
  refine Q7 (names:=r) (λp hp=>h p (.tail _ hp)) ?_
  cases hk:k==NameKind.free
  ·exact ha
  ·obtain⟨c',hc⟩:=h _ (.head _) hk
   rw[hc]
   show(match y==n with|true=>some c'|false=>acc.lookup y)=some c→_
   cases q:y==n
   ·exact ha
   ·exactλe=>eq_of_beq q▸hc.trans e
theorem Od{env:Env}{y:Str}:∀{names:Nms}{acc:List (Str×Addr)},((∃c,acc.lookup y=some c)∨(y,NameKind.free)∈names)→∃c,(M6 env names acc).lookup y=some c
 |[],acc,h=>h.elim id λh=>absurd h List.not_mem_nil
 |(n,k)::r,acc,h=>by
  refine Od (names:=r) ?_
  rcases h with⟨c,h⟩|h
  ·refine .inl ?_
   cases k==NameKind.free
   ·exact⟨c,h⟩
   ·show∃c,(match y==n with|true=>some _|false=>acc.lookup y)=some c
    cases y==n
    ·exact⟨c,h⟩
    ·exact⟨_,rfl⟩
  ·rcases Mw h with e|h
   ·cases e
    exact .inl ⟨(env.cells.lookup y).getD 0,by show(match y==y with|true=>_|false=>_)=_;rw[beq_self_eq_true]⟩
   ·exact .inr h
theorem G8{α:Type}(x:Str):∀l:List (Str×α),l.lookup x=lk x l
 |[]=>rfl
 |(y,v)::r=>by
  show(match x==y with|true=>some v|false=>r.lookup x)=(match sq x y with|true=>some v|false=>lk x r)
  rw[i4]
  cases sq x y
  ·exact G8 x r
  ·rfl
theorem Jz{env:Env}(hf:env.scope.kind=.function)(x:Str):∀{names:Nms},(∀p∈names,p.2=.free→env.kindOf p.1=some .cell)→
  (names.map λ(n,k)=>if(k==NameKind.free&&env.scope.kind==.function&&env.kindOf n==some .cell)then(n,NameKind.cell)else(n,k)).lookup x=(lk x names).map knd
 |[],_=>rfl
 |(n,k)::r,h=>by
  have ih:=Jz hf x (names:=r) λp hp=>h p (.tail _ hp)
  have e:(if(k==NameKind.free&&env.scope.kind==.function&&env.kindOf n==some .cell)=true then(n,NameKind.cell)else(n,k))=(n,knd k):=by
   cases k
   case free=>rw[h _ (.head _) rfl,hf];rfl
   all_goals rfl
  refine(congrArg (λq=>List.lookup x (q::_)) e).trans ?_
  show(match x==n with|true=>some (knd k)|false=>List.lookup x _)=(match sq x n with|true=>some k|false=>lk x r).map knd
  rw[i4]
  cases sq x n
  ·exact ih
  ·rfl
structure D7(sc cs:Scope)(x:Str):Prop where
 kind:cs.kind=.function
 tgt:lk x cs.names=some .local
 debug:lk "__debug__" cs.names=none
 names:∀p∈cs.names,(p.2=.local∧(p.1=x∨p.1=".0")∧lk p.1 cs.names=some .local)∨(p.2=.free∧lk p.1 sc.names=some .cell)∨p.2=.globalImplicit
theorem Uu{o:Option NameKind}(h:l6 o=true):o=some .local:=by
 rcases o with _|k
 ·exact Bool.noConfusion h
 ·cases k<;>first|rfl|exact Bool.noConfusion h
theorem l8{o:Option NameKind}(h:x6 o=true):o=some .cell:=by
 rcases o with _|k
 ·exact Bool.noConfusion h
 ·cases k<;>first|rfl|exact Bool.noConfusion h
theorem l7{k:ScopeKind}(h:x5 k=true):k=.function:=by cases k<;>first|rfl|exact Bool.noConfusion h
theorem Q6{sc cs:Scope}{x:Str}(h:Kn sc cs x=true):D7 sc cs x:=
 have h:=Ab h
 have h1:=Ab h.1
 have h2:=Ab h1.1
 ⟨l7 h2.1,Uu h2.2,Option.isNone_iff_eq_none.mp h1.2,λp hp=>by
  have:=Be h.2 p hp
  obtain⟨n,k⟩:=p
  cases k
  case «local»=>
   have this:=Ab this
   exact .inl ⟨rfl,(Ho this.1).imp Bm.mp Bm.mp,Uu this.2⟩
  case free=>exact .inr (.inl ⟨rfl,l8 this⟩)
  case globalImplicit=>exact .inr (.inr rfl)
  all_goals exact Bool.noConfusion this⟩
end
section
open PySem PySem.W PySem.Calls PyProof.Rows
section
variable{T:Th}{x:Ex T}{cs:Scope}{y:Str}
noncomputable abbrev Ym(x:Ex T)(cs:Scope)(C:Addr):Env:=compEnvC cs (M6 x.env cs.names []) C x.env
theorem Ih(hc:D7 x.sc cs y):∀p∈cs.names,p.2=.free→x.env.kindOf p.1=some .cell:=λp hp e=>(hc.names p hp).elim (λq=>nomatch e.symm.trans q.1) λq=>q.elim (λq=>x.hE.names _ _ q.2) λq=>nomatch e.symm.trans q
theorem M4(hc:D7 x.sc cs y):Sv x.env cs.names:=λp hp e=>x.hE.cells _ (Ih hc p hp (eq_of_beq e))
theorem F0(hc:D7 x.sc cs y)(C:Addr)(z:Str):(Ym x cs C).kindOf z=(lk z cs.names).map knd:=Jz x.hE.kind z (Ih hc)
theorem Q5(hc:D7 x.sc cs y){z:Str}{k:NameKind}(e:lk z cs.names=some k)(hk:knd k=.cell):(z,NameKind.free)∈cs.names:=by
 have hm:=Fr e
 rcases hc.names _ hm with q|q|q
 ·cases q.1;exact nomatch hk
 ·cases q.1;exact hm
 ·cases q;exact nomatch hk
theorem bX(hc:D7 x.sc cs y){z:Str}{c:Addr}:(M6 x.env cs.names []).lookup z=some c→x.env.cells.lookup z=some c:=Q7 (M4 hc) λe=>Ao e
theorem Vg(hc:D7 x.sc cs y)(C:Addr):Ma (Ym x cs C) cs where
 kind:=hc.kind
 globals:=x.hE.globals
 builtins:=x.hE.builtins
 debug:=hc.debug
 names:=λz k e=>(F0 hc C z).trans (congrArg (Option.map knd) e)
 cells:=λz e=>by
  rw[F0 hc C z]at e
  obtain⟨k,e1,e2⟩:=rH e
  exact Od (.inr (Q5 hc e1 e2))
theorem nE(hc:D7 x.sc cs y)(hn:Eh x.ρ=true){g:Gh}{h:Heap}(hL:f9 T.F g h x.env x.ρ){C:Addr}{it:PyData}{v:Value}(hv:Bp g it v){m:Str→Option Value}(hm:h.Ns C m)(hx:m y=some v):f9 T.F g h (Ym x cs C) ((y,.val,.d it)::x.ρ):=λz sk w e hk=>by
 rw[Ck]at e
 unfold Wg at hk
 rw[F0 hc C z]at hk
 by_cases hz:z=y
 ·subst hz
  rw[if_pos rfl]at e
  cases e
  exact⟨v,.inl ⟨(F0 hc C z).trans (congrArg (Option.map knd) hc.tgt),m,hm,hx⟩,hv⟩
 ·rw[if_neg hz]at e
  rcases hk with q|q
  ·obtain⟨k,e1,e2⟩:=rH q
   rcases hc.names _ (Fr e1)with⟨_,q|q,_⟩|⟨q,_⟩|q
   ·exact absurd q hz
   ·have hn:(match lk ".0" x.ρ with|none=>true|some _=>false)=true:=hn
    have q:z=".0":=q
    rw[q]at e
    rw[e]at hn
    exact Bool.noConfusion hn
   ·cases q;exact nomatch e2
   ·cases q;exact nomatch e2
  ·obtain⟨k,e1,e2⟩:=rH q
   have hf:=Q5 hc e1 e2
   obtain⟨u,hu,hs⟩:=hL z sk w e (.inr (Ih hc _ hf rfl))
   refine⟨u,.inr ⟨(F0 hc C z).trans q,?_⟩,hs⟩
   rcases hu with⟨q,_⟩|⟨_,c,hcc,hv'⟩
   ·exact nomatch q.symm.trans (Ih hc _ hf rfl)
   ·obtain⟨c',hc'⟩:=Od (env:=x.env) (acc:=[]) (.inr hf)
    exact⟨c,(Cd ((bX hc hc').symm.trans hcc))▸hc',hv'⟩
end
end
section
open PySem PySem.W PySem.Calls PyProof.Rows
theorem Oj{prog:Program}{w:World}{A:Around}{E:Value→Shared→Prop}{s:Shared}{l:Addr}{vs:Array Value}{n:Nat}{x:Value}{Q:Value→Shared→Prop}(ho:s.heap.get? l=some (Af "list" vs n))
  (hQ:∀h' m,h'.get? l=some (Af "list" (vs.push x) m)→Heap.SameBut l s.heap h'→Q .none {s with heap:=h'}) (hsz:vs.size≤sizeLine):
  wpAny (model prog w) A (call (.builtin "list.append") [.ref l,x]) Q E s:=by
 refine wpAny_call_entry slot_list_append ⟨_,ho,rfl⟩ entry_list_append ?_ (args_list_append _ _)
 show wpAny _ _ (updateSeq l (·.push x) >>=λη=>ret .none) _ _ s
 exact wpAny_bind (wpAny_updateSeq ho rfl (wpAny_pure ⟨.none,rfl,hQ _ _ (get?_update_seq ho _) (Heap.SameBut.update ..)⟩))
theorem De.drop{P:Addr→Prop}{g g':Gh}{h h' h'':Heap}{a:Addr}(st:De P g h g' h')(ha:h.get? a=none)(k:∀b o,b≠a→h'.get? b=some o→h''.get? b=some o):De P g h g' h'':=
 {st with
  keep:=λb o e m p=>k b o (λq=>Fc ha (q▸e)) (st.keep b o e m p)
  alive:=λb o e=>(st.alive b o e).imp λo' e'=>k b o' (λq=>Fc ha (q▸e)) e'}
noncomputable abbrev Mo.turn{F:Cc}{b:Shared}{σ:Sg}(m:Mo F b σ){a:Addr}(hp:Hi F m.g m.h a)(h':Heap)(t:Nat)(k:∀b o,b≠a→m.h.get? b=some o→h'.get? b=some o):Mo F b σ:=⟨h',t,m.g,m.inv.part hp k⟩
noncomputable def Ll(es:List Expr)(env:Env)(b:Bool):Sem Bool:=forIn es b λc r=>if r=true then do let ok ← isTrue c env (eval c env);pure (ForInStep.yield ok)else pure (ForInStep.yield r)
section
variable{M:Model}{A:Around}{E:Value→Shared→Prop}{s:Shared}{env:Env}{Q:Bool→Shared→Prop}{e:Expr}{es:List Expr}
theorem Nd:∀(es:List Expr),Q false s→wpAny M A (Ll es env false) Q E s
 |[],h=>wpAny_pure h
 |e::es,h=>by
  unfold Ll
  rw[List.forIn_cons]
  exact wpAny_bind (wpAny_pure (Nd es h))
theorem Wr(z:wpAny M A (isTrue e env (eval e env)) (λb s=>wpAny M A (Ll es env b) Q E s) E s):wpAny M A (Ll (e::es) env true) Q E s:=by
 unfold Ll
 rw[List.forIn_cons]
 exact wpAny_bind (wpAny_bind (wpAny_mono z (λη η z=>wpAny_pure z) λη η z=>z))
end
theorem A43{T:Th}{es:List Expr}{vs:List (Ev Sg)}(h:SEs T es vs):∀(x:Ex T){σ:Sg}(c:Cf x σ),GoT c (evA vs x.sc x.ρ σ) (Ll es x.env true):=by
 induction h with
 |nil=>exactλx σ c Q hQ=>wpAny_pure (hQ c.toMo _ .refl rfl)
 |cons h1 _ ih=>exactλx σ c=>Go.r2 (λη=>Wr) (h1.tst x σ c) λb η m' η st r=>r▸match b with
  |true=>ih x (c.go m' st)
  |false=>λQ hQ=>Nd _ (hQ m' false .refl rfl)
section
variable{T:Th}{x:Ex T}{σ0 σ σ':Sg}{c0:Cf x σ0}{D C I:Addr}{u:Value}{P:Nat→Value→Prop}{St:Nat→Heap→Prop}{xs:List PyData}{i:Nat}{out:Array Value}{done:List PyData}
structure LC(c0:Cf x σ0)(D C I:Addr)(u:Value)(P:Nat→Value→Prop)(St:Nat→Heap→Prop)(xs:List PyData)(i:Nat)(out:Array Value)(done:List PyData)(m:Mo T.F x.b σ):Prop where
 st:Nx c0.toMo m
 pv:∀a,a=D∨a=C∨a=I→Hi T.F m.g m.h a
 ux:∀a,u=.ref a→¬Z6 m.g a∧∃o,m.h.get? a=some o
 item:∀i v,P i v→i<xs.length→∃y,xs[i]?=some y∧Bp m.g y v
 walk:St i m.h
 lst:∃k,m.h.get? D=some (Af "list" out k)
 ns:∃mm,m.h.Ns C mm
 rel:A6 (Bp m.g) done out.toList
structure oN(c0:Cf x σ0)(D C I:Addr)(u:Value)(P:Nat→Value→Prop)(St:Nat→Heap→Prop)(xs:List PyData):Prop where
 new:∀a,a=D∨a=C∨a=I→c0.h.get? a=none
 dc:D≠C
 di:D≠I
 ci:C≠I
 ux:∀a,u=.ref a→a≠D∧a≠C
 here:∀i h,St i h→∃o,h.get? I=some o
 W:∃fp,Walks T.F.prog T.F.w x.A I fp [I] xs.length P St∧∀b∈fp,b=I∨u=.ref b
theorem oN.mv(S:oN c0 D C I u P St xs){h h':Heap}(w:St i h)(k1:∀o,h.get? I=some o→h'.get? I=some o)(k2:∀a o,u=.ref a→h.get? a=some o→h'.get? a=some o):St i h':=
 S.W.elim λfp W=>W.1.frame i h h' w λb hb o=>(W.2 b hb).elim (λe=>e▸k1 o) λe=>k2 b o e
theorem LC.go{m:Mo T.F x.b σ}{m':Mo T.F x.b σ'}(S:oN c0 D C I u P St xs)(L:LC c0 D C I u P St xs i out done m)(st:Nx m m'):LC c0 D C I u P St xs i out done m' where
 st:=t0 L.st st
 pv:=λa h=>(L.pv a h).step st id
 ux:=λa e=>⟨(L.ux a e).2.elim λo ho=>st.mut ho (L.ux a e).1,(L.ux a e).2.elim λo ho=>⟨o,st.keep _ _ ho (L.ux a e).1 id⟩⟩
 item:=λi v p h=>(L.item i v p h).imp λy q=>⟨q.1,Bk st q.2⟩
 walk:=S.mv L.walk (λo e=>st.keep _ o e (L.pv I (.inr (.inr rfl))).im id) λa o e h=>st.keep _ o h (L.ux a e).1 id
 lst:=L.lst.imp λk e=>st.keep _ _ e (L.pv D (.inl rfl)).im id
 ns:=L.ns.imp λmm e=>Cj (λo e=>st.keep _ o e (L.pv C (.inr (.inl rfl))).im id) e
 rel:=L.rel.imp λη η r=>Bk st r
theorem LC.part{m:Mo T.F x.b σ}(S:oN c0 D C I u P St xs)(L:LC c0 D C I u P St xs i out done m){a:Addr}(ha:a=D∨a=C∨a=I){h':Heap}{t:Nat}(k:∀b o,b≠a→m.h.get? b=some o→h'.get? b=some o)(n:∃o,h'.get? a=some o)
  {i':Nat} {out':Array Value} {done':List PyData} (walk:St i' h') (lst:∃k,h'.get? D=some (Af "list" out' k)) (ns:∃mm,h'.Ns C mm) (rel:A6 (Bp m.g) done' out'.toList):LC c0 D C I u P St xs i' out' done' (m.turn (L.pv a ha) h' t k):=
 have hr:∀z,(∃o,m.h.get? z=some o)→∃o,h'.get? z=some o:=λz hz=>(Nat.decEq z a).byCases (λq=>q▸n) λq=>hz.imp λo=>k z o q
 ⟨L.st.drop (S.new a ha) k,λz hz=>⟨hr z (L.pv z hz).here,(L.pv z hz).G,(L.pv z hz).im,(L.pv z hz).base⟩,λz e=>⟨(L.ux z e).1,hr z (L.ux z e).2⟩,L.item,walk,lst,ns,rel⟩
theorem LC.next{m:Mo T.F x.b σ}(S:oN c0 D C I u P St xs)(L:LC c0 D C I u P St xs i out done m){h':Heap}{t:Nat}(k:∀b o,b≠I→m.h.get? b=some o→h'.get? b=some o)(w:St (i+1) h'):LC c0 D C I u P St xs (i+1) out done (m.turn (L.pv I (.inr (.inr rfl))) h' t k):=
 L.part S (.inr (.inr rfl)) k (S.here _ _ w) w (L.lst.imp λη e=>k _ _ S.di e) (L.ns.imp λmm e=>Cj (λo e=>k _ o S.ci e) e) L.rel
theorem LC.store{m:Mo T.F x.b σ}(S:oN c0 D C I u P St xs)(L:LC c0 D C I u P St xs i out done m){h':Heap}{t:Nat}{mm:Str→Option Value}(hs:Heap.SameBut C m.h h')(n:h'.Ns C mm):LC c0 D C I u P St xs i out done (m.turn (L.pv C (.inr (.inl rfl))) h' t (C0 hs)):=
 L.part S (.inr (.inl rfl)) _ (n.elim λo q=>q.elim λη q=>q.elim λη q=>⟨o,q.1⟩) (S.mv L.walk (λo e=>C0 hs _ o S.ci.symm e) λa o e=>C0 hs _ o (S.ux a e).2) (L.lst.imp λη e=>C0 hs _ _ S.dc e) ⟨mm,n⟩ L.rel
theorem LC.add{m:Mo T.F x.b σ}(S:oN c0 D C I u P St xs)(L:LC c0 D C I u P St xs i out done m){h':Heap}{t k:Nat}{y:PyData}{v:Value}(hs:Heap.SameBut D m.h h')(n:h'.get? D=some (Af "list" (out.push v) k))(r:Bp m.g y v):LC c0 D C I u P St xs i (out.push v) (done++[y]) (m.turn (L.pv D (.inl rfl)) h' t (C0 hs)):=
 L.part S (.inl rfl) _ ⟨_,n⟩ (S.mv L.walk (λo e=>C0 hs _ o S.di.symm e) λa o e=>C0 hs _ o (S.ux a e).1) ⟨k,n⟩ (L.ns.imp λmm e=>Cj (λo e=>C0 hs _ o S.dc.symm e) e) (by rw[Array.toList_push];exact L.rel.append (.one r))
end
end
section
open PySem PySem.W PySem.Calls PyProof.Rows
section
variable{T:Th}{x:Ex T}{σ0 σ σ':Sg}{c0:Cf x σ0}{D C I:Addr}{u:Value}{P:Nat→Value→Prop}{St:Nat→Heap→Prop}{xs ys:List PyData}{i:Nat}{out:Array Value}{done:List PyData}{cs:Scope}{y:Str}
noncomputable abbrev cEx(x:Ex T)(hc:D7 x.sc cs y)(C:Addr)(it:PyData):Ex T:={x with env:=Ym x cs C,sc:=cs,ρ:=(y,.val,.d it)::x.ρ,hE:=Vg hc C}
noncomputable abbrev LC.cf{m:Mo T.F x.b σ}(L:LC c0 D C I u P St xs i out done m)(hc:D7 x.sc cs y)(hn:Eh x.ρ=true){it:PyData}{v:Value}(hr:Bp m.g it v){mm:Str→Option Value}(hm:m.h.Ns C mm)(hx:mm y=some v):Cf (cEx x hc C it) σ:=
 {m with
  fr:=λa q=>q.elim (λq=>q▸L.pv C (.inr (.inl rfl))) λq=>c0.fr.step L.st a (.inr (q.imp λz e=>bX hc e))
  loc:=nE hc hn (c0.loc.step L.st c0.fr) hr hm hx}
end
noncomputable def oC(M:Model)(A:Around)(I:Addr)(tgt:Expr)(env:Env)(ifs:List Expr)(elt:Expr)(D:Addr)(J:Nat→Shared→Prop)(R:Result→Shared→Prop)(E:Value→Shared→Prop)(n:Nat)(s:Shared):Prop:=
 wpAny M A (pyNext (.ref I)) (λr s₁=>match r with
  |none=>R (.ok .next) s₁
  |some v=>wpAny M A (assign tgt env v) (λη s₂=>wpAny M A (Ll ifs env true) (λok s₃=>
    if ok=true then wpAny M A (eval elt env) (λx s₄=>wpAny M A (call (.builtin "list.append") [.ref D,x]) (λη s₅=>∃m,m<n∧J m s₅) E s₄) E s₃
    else∃m,m<n∧J m s₃) E s₂) E s₁) E s
theorem w0{α:Type}{M:Model}{A:Around}{E:Value→Shared→Prop}{s:Shared}{t:Sem α}{Q:α→Shared→Prop}(h:wpAny M A t Q ff s):wpAny M A t Q E s:=wpAny_mono h (λη η z=>z) λη η z=>z.elim
theorem eK{T:Th}{x:Ex T}{σ σ':Sg}(c:Cf x σ){ifs:List Expr}{ifs':List (Ev Sg)}{elt:Expr}{elt':Ev Sg}(hi:SEs T ifs ifs')(he:SEv T elt elt'){E:Value→Shared→Prop}{Q:Shared→Prop}{Q':Value→Shared→Prop}{r:Option PyData}
  (e:b2 (evA ifs' x.sc x.ρ σ) (λc s=>eB c (b1 (elt'.val x.sc x.ρ s) λv k s=>o1 (Em (v,k)) λy=>some (some y,s)) (some (none,s)))=some (r,σ'))
  (h1:∀m':Mo T.F x.b σ',Nx c.toMo m'→r=none→Q m'.s) (h2:∀(m':Mo T.F x.b σ') y u,Nx c.toMo m'→r=some y→Bp m'.g y u→Q' u m'.s):
  wpAny T.F.M x.A (Ll ifs x.env true) (λok s₃=>if ok=true then wpAny T.F.M x.A (eval elt x.env) Q' E s₃ else Q s₃) E c.s:=by
 have g:=A43 hi x c
 revert g e
 refine Option.casesOn (evA ifs' x.sc x.ρ σ) (λe=>Ao e) λq=>Prod.casesOn q λb σ1=>?_
 refine Bool.casesOn b (λe g=>w0 (g _ λm' η st r=>?_)) λe g=>w0 (g _ λm' η st r=>?_)<;>cases r
 ·cases e;exact h1 m' st rfl
 ·have g:=he.val x _ (c.go m' st)
  replace e:b1 (elt'.val x.sc x.ρ σ1) _=_:=e
  revert g e
  refine Option.casesOn (elt'.val x.sc x.ρ σ1) (λη e=>Ao e) λq=>Prod.casesOn q λv σ2 g e=>w0 (g _ λm6 u6 st6 r6=>?_)
  obtain⟨z,eC,e⟩:=A4 e
  cases e
  exact(Cf.frz m6 st6 r6).elim λm7 q=>q.1▸h2 m7 _ _ (t0 st q.2.1) rfl (q.2.2.clean (Dt eC))
section
variable{T:Th}{x:Ex T}{σ0 σ σ':Sg}{c0:Cf x σ0}{D C I:Addr}{u:Value}{P:Nat→Value→Prop}{St:Nat→Heap→Prop}{xs ys:List PyData}{i:Nat}{out:Array Value}{done:List PyData}{cs:Scope}{y:Str}
variable{ifs:List Expr}{ifs':List (Ev Sg)}{elt:Expr}{elt':Ev Sg}{py:Pos}{J:Nat→Shared→Prop}{R:Result→Shared→Prop}{E:Value→Shared→Prop}{n:Nat}
noncomputable def ext(done:List PyData):Option PyData→List PyData
 |none=>done
 |some y=>done++[y]
theorem eM{m:Mo T.F x.b σ}(S:oN c0 D C I u P St xs)(hc:D7 x.sc cs y)(hn:Eh x.ρ=true)(hi:SEs T ifs ifs')(he:SEv T elt elt')(L:LC c0 D C I u P St xs i out done m)(hcap:done.length≤I1){it:PyData}{r:Option PyData}(hit:xs[i]?=some it)
  (e:turn elt' ifs' cs y x.ρ it σ=some (r,σ')) (nx:∀(m':Mo T.F x.b σ') out',LC c0 D C I u P St xs (i+1) out' (ext done r) m'→∃m,m<n∧J m m'.s):oC T.F.M x.A I (.Name y py) (Ym x cs C) ifs elt D J R E n m.s:=
 S.W.elim λfp W=>W.1.item i m.s _ _ (dU hit).1 L.walk λv h3 tk hp w k=>
  have L3:=L.next (t:=tk) S (λb o n e=>k b o (λq=>n (Hd q)) e) w
  L3.ns.elim λmm hm=>wpAny_assign_Name (wpAny_storeName_local ((F0 hc C y).trans (congrArg (Option.map knd) hc.tgt)) hm (λh4 hn4 hs4=>
   have L4:=L3.store (t:=tk+1) S hs4 hn4
   have hr:Bp m.g it v:=(L3.item i v hp (dU hit).1).elim λit' q=>Cd (hit.symm.trans q.1)▸q.2
   eK (L4.cf hc hn hr hn4 (if_pos rfl)) hi he e (λm' st q=>nx m' _ (q.symm▸show LC c0 D C I u P St xs (i+1) out (ext done none) m' from L4.go S st)) λm' z u' st q r=>
    have L7:=L4.go S st
    L7.lst.elim λkk hD=>Oj (s:=m'.s) hD (λh8 k8 hD8 hs8=>nx _ _ (q.symm▸show LC c0 D C I u P St xs (i+1) _ (ext done (some z)) _ from L7.add (t:=m'.t) S hs8 hD8 r)) (Ct (Ag (Nat.le_of_eq L7.rel.length) hcap))) ((Vg hc C).kind▸rfl))
theorem eN{m:Mo T.F x.b σ}(S:oN c0 D C I u P St xs)(L:LC c0 D C I u P St xs xs.length out ys m)(hcap:ys.length≤I1){tgt:Expr}{env:Env}{ifs:List Expr}{elt:Expr}
  (fin:∀m':Mo T.F x.b σ,Nx c0.toMo m'→Bh T.F m'.g m'.h (.d (.list ys)) (.ref D)→Hi T.F m'.g m'.h C→(∃mm,m'.h.Ns C mm)→R (.ok .next) m'.s):oC T.F.M x.A I tgt env ifs elt D J R E n m.s:=
 S.W.elim λfp W=>W.1.done m.s _ _ L.walk λh3 tk k=>
  have k:∀b o,b≠I→m.h.get? b=some o→h3.get? b=some o:=λb o n e=>k b o (λq=>n (Hd q)) e
  have kp:∀a,a=D∨a=C∨a=I→a≠I→Hi T.F m.g h3 a:=λa q n=>⟨(L.pv a q).here.imp λo=>k a o n,(L.pv a q).G,(L.pv a q).im,(L.pv a q).base⟩
  fin (m.turn (L.pv I (.inr (.inr rfl))) h3 tk k) (L.st.drop (S.new I (.inr (.inr rfl))) k) (L.lst.elim λkk e=>⟨D,_,rfl,k D _ S.di e,⟨⟨hcap,out,kk,rfl,L.rel⟩,trivial⟩,kp D (.inl rfl) S.di⟩) (kp C (.inr (.inl rfl)) S.ci) (L.ns.imp λmm e=>Cj (λo e=>k C o S.ci e) e)
inductive LA(c0:Cf x σ0)(D C I:Addr)(u:Value)(P:Nat→Value→Prop)(St:Nat→Heap→Prop)(xs ys:List PyData)(f:PyData→Sg→Option (Option PyData×Sg))(σ':Sg):Nat→Shared→Prop
 |mk {σ:Sg} {i:Nat} {out:Array Value} {done:List PyData} {m:Mo T.F x.b σ} (L:LC c0 D C I u P St xs i out done m) (l rest:List PyData) (hl:xs.drop i=l) (le:i≤xs.length) (hf:Hz f l σ=some (rest,σ')) (hy:done++rest=ys) (few:done.length≤i):LA c0 D C I u P St xs ys f σ' l.length m.s
theorem uK{r:Option PyData}{i:Nat}(h:done.length≤i):(ext done r).length≤i+1:=match r with
 |none=>Nat.le_succ_of_le h
 |some _=>Ag (Nat.le_of_eq List.length_append) (Nat.succ_le_succ h)
theorem uL{r:Option PyData}{l:List PyData}:ext done r++l=done++(match r with|some y=>y::l|none=>l):=match r with
 |none=>rfl
 |some _=>List.append_assoc ..
theorem eJ(S:oN c0 D C I u P St xs)(hcap:xs.length≤I1)(hc:D7 x.sc cs y)(hn:Eh x.ρ=true)(hi:SEs T ifs ifs')(he:SEv T elt elt')
  (fin:∀m':Mo T.F x.b σ',Nx c0.toMo m'→Bh T.F m'.g m'.h (.d (.list ys)) (.ref D)→Hi T.F m'.g m'.h C→(∃mm,m'.h.Ns C mm)→R (.ok .next) m'.s):
  ∀n s,LA c0 D C I u P St xs ys (turn elt' ifs' cs y x.ρ) σ' n s→oC T.F.M x.A I (.Name y py) (Ym x cs C) ifs elt D (LA c0 D C I u P St xs ys (turn elt' ifs' cs y x.ρ) σ') R E n s
 |_,_,.mk (i:=i) L [] rest hl le hf hy few=>by
  cases hf
  have e:i=xs.length:=Nat.le_antisymm le (List.drop_eq_nil_iff.mp hl)
  cases(List.append_nil _).symm.trans hy
  exact eN S (e▸L) (Ag few (Ag le hcap)) fin
 |_,_,.mk (i:=i) L (it::l) rest hl le hf hy few=>by
  have e3:xs[i]?=some it:=(List.getElem?_drop (xs:=xs) (i:=i) (j:=0)).symm.trans (congrArg (·[0]?) hl)
  refine Ac λXz hXz=>?_
  obtain⟨r,σj,e1,hf⟩:=Av hf
  obtain⟨zs,σk,e2,hf⟩:=Av hf
  refine hXz ?_
  cases hf
  exact eM S hc hn hi he L (Ag few (Ag le hcap)) e3 e1 λm' out' L'=>⟨_,Nat.lt_succ_self _,.mk L' l zs ((List.drop_drop (l:=xs) (i:=1) (j:=i)).symm.trans (congrArg (List.drop 1) hl)) (dU e3).1 e2 (uL.trans hy) (uK few)⟩
end
end
section
open PySem PySem.W PySem.Calls PyProof.Rows
noncomputable def ItC(F:Cc)(A:Around)(n:Heap)(g:Gh)(h:Heap)(xs:List PyData)(w:Value):Prop:=∃u,ItU F A n g h xs u w∧∀a,u=.ref a→¬Z6 g a∧∃o,h.get? a=some o
section
variable{T:Th}{x:Ex T}{σ σ':Sg}
noncomputable def Z9(c:Cf x σ)(e:Expr):Option (List PyData×Sg)→Prop
 |none=>True
 |some (xs,σ')=>∀Q:Value→Shared→Prop,(∀(m:Mo T.F x.b σ') w,Nx c.toMo m→ItC T.F x.A c.h m.g m.h xs w→Q w m.s)→wpAny T.F.M x.A (eval e x.env) (λu s=>wpAny T.F.M x.A (pyIter u) Q ff s) ff c.s
theorem ItC.up{F:Cc}{A:Around}{n n':Heap}{g:Gh}{h:Heap}{xs:List PyData}{w:Value}(a:vV n n')(r:ItC F A n' g h xs w):ItC F A n g h xs w:=
 r.imp λu q=>⟨q.1.imp λI=>Exists.imp λfp=>Exists.imp λP=>Exists.imp λSt z=>⟨z.1,a.fresh z.2.1,z.2.2⟩,q.2⟩
theorem Z9.mk{α:Type}{R:Gh→Heap→α→Value→Prop}{c:Cf x σ}{e:Expr}{t:Option (α×Sg)}{f:α→Sg→Option (List PyData×Sg)}(h:Go x.A c.toMo R t (eval e x.env))(k:∀a σ'(m:Mo T.F x.b σ') u,R m.g m.h a u→Go x.A m (ItC T.F x.A m.h) (f a σ') (pyIter u)):Z9 c e (b2 t f):=by
 revert h
 refine Option.casesOn t (λη=>trivial) λq h=>?_
 show Z9 c e (f q.1 q.2)
 have h:∀Q:Value→Shared→Prop,_:=h
 have k:=k q.1 q.2
 revert k
 refine Option.casesOn (f q.1 q.2) (λη=>trivial) λr k Q hQ=>h _ λm u st r=>k m u r Q λm2 w st2 it=>hQ m2 w (t0 st st2) (it.up st.alive)
theorem Z9.b1{c:Cf x σ}{e:Expr}{t:Option (RV×Sg)}{f:V→Kd→Sg→Option (List PyData×Sg)}(h:Z9 c e (b2 t λr s=>f r.1 r.2 s)):Z9 c e (Mine.b1 t f):=match t,h with
 |none,_=>trivial
 |some _,h=>h
theorem fO{F:Cc}{g:Gh}{h:Heap}(hI:Hb F g σ h){y:PyData}{a:Addr}(r:Vw F g h (.d y) (.ref a))(hy:D9 y=true):¬Z6 g a∧∃o,h.get? a=some o:=by
 refine Ac λXz hXz=>?_
 rcases r with r|⟨b,o,e,ho,_,p⟩
 ·refine hXz ?_
  replace r:Mb (D9 y) _ _ _:=r
  rw[hy]at r
  refine Ac λXz hXz=>?_
  obtain⟨b,e,q⟩:=r
  refine hXz ?_
  cases e
  exact⟨λm=>dA (hI.own a m).1 q rfl,(hI.gam a _ q).imp λη z=>z.1⟩
 ·refine hXz ?_
  cases e
  exact⟨p.im,o,ho⟩
theorem Q0{v:V}{xs:List PyData}(h:Nw v=some xs):∃y,v=.d y∧D9 y=true:=match v,h with
 |.o _,h=>Ao h
 |.d y,h=>⟨y,rfl,by cases y<;>first|rfl|exact Ao h⟩
theorem dT{c:Cf x σ}{e:Expr}{o:Option (RV×Sg)}(h:P2 c o (eval e x.env)):Z9 c e (Mine.b1 o λv η s=>o1 (Nw v) λxs=>some (xs,s)):=
 .b1 (.mk h λr σ' m u r=>.of λxs s e=>by
  obtain⟨ys,e1,e2⟩:=A4 e
  have g:=bH T.ok x.hA r.vw
  rw[e1]at g
  cases e2
  exactλQ hQ=>g Q λm2 w st it=>hQ m2 w st ⟨u,it,λa ea=>(Q0 e1).elim λy q=>
   have z:=fO m.inv (q.1▸ea▸r.vw) q.2
   ⟨z.2.elim λo ho=>st.mut ho z.1,z.2.elim λo ho=>⟨o,st.keep _ _ ho z.1 id⟩⟩⟩)
noncomputable def B08(_:Gh)(h:Heap)(xs:List PyData)(u:Value):Prop:=∃n t a p q r,xs=rng n∧(-4096≤n∧n≤4096)∧u=.ref a∧IsRange h a 0 n 1 p q r∧t=h
theorem iH{v:V}{xs:List PyData}(h:H6 v=some xs):∃n,v=.d (.int n)∧(-4096≤n∧n≤4096)∧rng n=xs:=match v,h with
 |.o _,h=>Ao h
 |.d y,h=>match y,h with
  |.int n,h=>⟨n,rfl,of_decide_eq_true (B7 h).1,Cd (B7 h).2⟩
  |.none,h=>Ao h
  |.bool _,h=>Ao h
  |.str _,h=>Ao h
  |.list _,h=>Ao h
  |.tuple _,h=>Ao h
  |.dict _,h=>Ao h
theorem tH{m:Mo T.F x.b σ}{v:V}{u:Value}(r:Vw T.F m.g m.h v u):Go x.A m B08 (o1 (H6 v) λxs=>some (xs,σ)) (call (.type "range") [u]):=.vo λxs hx=>by
 obtain⟨n,rfl,hb,rfl⟩:=iH hx
 obtain⟨tk,rfl⟩:=r.scal rfl
 exactλQ hQ=>call_range_1 (s:=m.s) (hQ {m.push _ with t:=m.t+1+1} _ (Ar _) ⟨n,_,_,_,_,_,rfl,hb,rfl,IsRange.new m.h 0 n 1 _ _ _,rfl⟩)
theorem lV{e:Expr}{v:Ev Sg}{p q:Pos}(c:Cf x σ)(h1:SEv T e v)(h2:Qg e v.val)(hg:lk "range" x.sc.names=some .globalImplicit):Go x.A c.toMo B08 (b1 (v.val x.sc x.ρ σ) λv η s=>o1 (H6 v) λxs=>some (xs,s)) (eval (.Call (.Name "range" q) [e] [] p) x.env):=
 h2.elim (λhs=>.r1 (κ:=λu=>call (.type "range") [u]) (λQ z=>Call_Name rfl (Ez c hg (.inr T.ok.rangeT) (by
   have key:wpAny T.F.M x.A (spliced (backTo p (starEach [e] x.env))) (λus s'=>wpAny T.F.M x.A (call (.type "range") ([]++us) []) Q ff s') ff c.s:=wpAny_items_cons (wpAny_mono z (λη η z=>wpAny_items_nil z) λη η z=>z) (hs.1 _ _)
   rw[show starEach [e] x.env=[(false,eval e x.env)]from hs.1 _ _]at key⊢
   exact PySem.callWith_type rfl (evalArgs_plain key)))) (h1.val x σ c) λη η η η η η r=>tH r.vw)
  λhn=>by show Go _ _ _ (Mine.b1 (v.val x.sc x.ρ σ) _) _;rw[hn];trivial
theorem iI(n:Int):Builtin.Range.rangeSize 0 n 1=(n.toNat:Int):=by
 rw[rangeSize_one]
 by_cases h:0<n
 ·rw[if_pos h,Int.toNat_of_nonneg (Int.le_of_lt h)];exact Int.sub_zero n
 ·rw[if_neg h,Int.toNat_eq_zero.mpr (Int.not_lt.mp h)];rfl
theorem Mn(n:Int):(rng n).length=n.toNat:=(List.length_map ..).trans List.length_range
theorem bD{m:Mo T.F x.b σ}{xs:List PyData}{u:Value}(r:B08 m.g m.h xs u):Go x.A m (λg h xs w=>ItU T.F x.A m.h g h xs .none w) (some (xs,σ)) (pyIter u):=by
 refine Ac λXz hXz=>?_
 obtain⟨n,_,a,p,q,r,rfl,hb,rfl,hr,_⟩:=r
 refine hXz ?_
 have sz:=iI n
 have sm:Builtin.Range.small 0 n 1=true:=small_one (by decide) (by decide) (Int.le_trans (by decide) hb.1) (Int.lt_of_le_of_lt hb.2 (by decide))
 have hI:=Heap.get?_push_size m.h (o:={cls:=.type "range_iterator",data:=.fields #[rawInt 0,rawInt (n.toNat:Int),rawInt 1]}) rfl
 refineλQ hQ=>wpAny_pyIter_range (s:=m.s) hr sm (sz▸hQ (m.push _) _ (Ar _) ⟨_,_,_,_,rfl,Ap _,
  ⟨Mn n▸Walks.range x.hA.handled m.h.objs.size 0 1 n.toNat,λi h st=>⟨_,_,st,rfl,.tail _ (.tail _ (.tail _ (.head _)))⟩,λi v hp hi=>?_,.new m.inv (Ap _) ⟨_,hI⟩,λb hb=>.inl (Hd hb)⟩,?_,?_⟩)
 ·exact⟨.int i,by simp only[rng,List.getElem?_map,List.getElem?_range (Mn n▸hi)];rfl,hp.elim λt e=>⟨t,e.trans (by rw[Int.zero_add,Int.mul_one])⟩⟩
 ·exact hI.trans (congrArg (λz=>some ({cls:=.type "range_iterator",data:=.fields #[rawInt 0,rawInt z,rawInt 1]}:Obj)) ((Int.sub_zero _).symm.trans (congrArg (λk:Nat=>(k:Int) -((0:Nat):Int)) (Mn n).symm)))
 ·exact Mn n▸Ag (Int.toNat_le.mpr hb.2) (by decide)
theorem u7{e:Expr}{v:Ev Sg}{p q:Pos}(c:Cf x σ)(h1:SEv T e v)(h2:Qg e v.val)(hg:lk "range" x.sc.names=some .globalImplicit):Z9 c (.Call (.Name "range" q) [e] [] p) (b1 (v.val x.sc x.ρ σ) λv η s=>o1 (H6 v) λxs=>some (xs,s)):=by
 have z:Z9 c (.Call (.Name "range" q) [e] [] p) (b2 (b1 (v.val x.sc x.ρ σ) λv η s=>o1 (H6 v) λxs=>some (xs,s)) λxs s=>some (xs,s)):=.mk (lV c h1 h2 hg) λxs η m u r=>(bD r).imp λη η η η it=>⟨.none,it,λη e=>nomatch e⟩
 revert z
 refine Option.casesOn (v.val x.sc x.ρ σ) id λr=>?_
 show Z9 _ _ (b2 (o1 (H6 r.1.1) _) _)→Z9 _ _ (o1 (H6 r.1.1) _)
 exact Option.casesOn (H6 r.1.1) id λη=>id
end
end
section
open PySem PySem.W PySem.Calls PyProof.Rows
section
variable{T:Th}{x:Ex T}{σ σ':Sg}{y:Str}{cs:Scope}{elt iter:Expr}{elt':Ev Sg}{ifs:List Expr}{ifs':List (Ev Sg)}{py pos pos':Pos}
theorem Yg(hc:D7 x.sc cs y):∀p∈cs.names,p.2=.local→cs.names.lookup p.1=some .local:=λp hp hl=>(hc.names p hp).elim (λq=>(G8 ..).trans q.2.2) λq=>q.elim (λq=>nomatch hl.symm.trans q.1) λq=>nomatch hl.symm.trans q
theorem Yh(hc:D7 x.sc cs y):∀p∈cs.names,p.2≠.cell:=λp hp hl=>(hc.names p hp).elim (λq=>nomatch hl.symm.trans q.1) λq=>q.elim (λq=>nomatch hl.symm.trans q.1) λq=>nomatch hl.symm.trans q
theorem Vf{c0:Cf x σ}(hc:D7 x.sc cs y)(hn:Eh x.ρ=true)(hs:∀v,foldedSetIterable iter x.env v=pure v)(hi:SEs T ifs ifs')(he:SEv T elt elt'){xs:List PyData}{σ1:Sg}(hI:Z9 c0 iter (some (xs,σ1)))
  {ys:List PyData} (hf:Hz (turn elt' ifs' cs y x.ρ) xs σ1=some (ys,σ')) {use:Option (Value→Sem Unit)} {Q:Value→Shared→Prop}
  (fin:∀D C(m':Mo T.F x.b σ'),Nx c0.toMo m'→c0.h.get? D=none→c0.h.get? C=none→D≠C→Bh T.F m'.g m'.h (.d (.list ys)) (.ref D)→Hi T.F m'.g m'.h C→(∃mm,m'.h.Ns C mm)→compPost T.F.M x.A ff use Q (.ref D) C (.ok .next) m'.s):
  wpAny T.F.M x.A (comprehension (.ListComp elt [⟨.Name y py,iter,ifs,0⟩] cs pos) cs x.env pos' (newList []) false (eval iter x.env) use) Q ff c0.s:=by
 refine wpAny_comprehension_free (g:=⟨.Name y py,iter,ifs,0⟩) (gs:=[]) (use:=use) rfl hs (Yj (M4 hc)) hc.kind (Yg hc) (hI _ λm w st it=>?_)
 refine Ac λXz hXz=>?_
 obtain⟨u,⟨I,fp,P,St,rfl,hIn,W,h0,hcap⟩,hu⟩:=it
 refine hXz ?_
 refine wpAny_newObj_type (wpAny_newFunctionEnv (Yh hc) (λη h=>absurd h List.not_mem_nil) (λh2 hns hsb=>?_) hc.kind)
 let m1:=(m.push (Af "list" #[] 0)).push {cls:=.type "dict",data:=.dict #[]}
 have hsb:Heap.SameBut (m.push (Af "list" #[] 0)).h.objs.size m1.h h2:=hsb
 have e1:(m.push (Af "list" #[] 0)).h.objs.size=m.h.objs.size+1:=Heap.size_push ..
 have nC:m.h.get? (m.push (Af "list" #[] 0)).h.objs.size=none:=R4 (e1▸Nat.le_succ _)
 have DC:m.h.objs.size≠(m.push (Af "list" #[] 0)).h.objs.size:=e1▸Nat.ne_of_lt (Nat.lt_succ_self _)
 have hC:=hns.elim λo q=>q.elim λη q=>q.elim λη q=>(⟨o,q.1⟩:∃o,h2.get? _=some o)
 have kp:∀b o,m.h.get? b=some o→h2.get? b=some o:=λb o e=>C0 hsb b o (λq=>Fc nC (q▸e)) (Dh _ _ _ (Dh _ _ _ e))
 have hD:h2.get? m.h.objs.size=some (Af "list" #[] 0):=C0 hsb _ _ DC (Dh _ _ _ (Heap.get?_push_size m.h rfl))
 have nI:∀{a},m.h.get? a=none→a≠I:=λe q=>W.prv.here.elim λo ho=>Fc e (q▸ho)
 let m2:Mo T.F x.b σ1:=⟨h2,m.t,m.g,m.inv.keep kp⟩
 have st2:Nx m m2:=.keeps kp
 have S:oN c0 m.h.objs.size (m.push (Af "list" #[] 0)).h.objs.size I u P St xs:=⟨λa q=>q.elim (λq=>st.alive.fresh (q▸Ap _)) λq=>q.elim (λq=>st.alive.fresh (q▸nC)) λq=>q▸hIn,DC,nI (Ap _),nI nC,λa e=>(hu a e).2.elim λo ho=>⟨λq=>Fc (Ap _) (q▸ho),λq=>Fc nC (q▸ho)⟩,λi h w=>(W.here i h w).imp λo q=>q.elim λη q=>q.1,⟨fp,W.W,W.foot⟩⟩
 have w2:St 0 h2:=S.mv h0 (λo=>kp _ o) λa o η=>kp _ o
 have L:LC c0 m.h.objs.size (m.push (Af "list" #[] 0)).h.objs.size I u P St xs 0 #[] [] m2:=⟨t0 st st2,λa q=>q.elim (λq=>q▸.new m.inv (Ap _) ⟨_,hD⟩) λq=>q.elim (λq=>q▸.new m.inv nC hC) λq=>q▸W.prv.step st2 id,
  λa e=>⟨(hu a e).1,(hu a e).2.imp λo=>kp _ o⟩,W.item,w2,⟨0,hD⟩,⟨_,hns⟩,.nil⟩
 have loop:∀t,codeAny T.F.M x.A (.compLoop (.ListComp elt [⟨.Name y py,iter,ifs,0⟩] cs pos) 0 (.ref I) (.ref m.h.objs.size) (Ym x cs (m.push (Af "list" #[] 0)).h.objs.size)) (compPost T.F.M x.A ff use Q (.ref m.h.objs.size) (m.push (Af "list" #[] 0)).h.objs.size) (m2.tk t).s:=λt=>
  codeAny_compLoop_tests _ (eJ S hcap hc hn hi he λm' st' o p n=>fin _ _ m' st' (S.new _ (.inl rfl)) (S.new _ (.inr (.inl rfl))) DC o p n) xs.length (.mk (m:=m2.tk t) ⟨L.st,L.pv,L.ux,L.item,L.walk,L.lst,L.ns,L.rel⟩ xs ys rfl (Nat.zero_le _) hf rfl (Nat.le_refl _))
 exact codeAny_compStart_list (loop _) (W.W.self 0 _ _ _ w2 (loop _))
theorem tO{c:Cf x σ}{o:Option (List PyData×Sg)}(hc:D7 x.sc cs y)(hn:Eh x.ρ=true)(hs:∀v,foldedSetIterable iter x.env v=pure v)(hi:SEs T ifs ifs')(he:SEv T elt elt')(hI:Z9 c iter o):
  P2 c (b2 o λxs s=>b2 (Hz (turn elt' ifs' cs y x.ρ) xs s) λys s=>some ((.d (.list ys),.fr),s)) (eval (.ListComp elt [⟨.Name y py,iter,ifs,0⟩] cs pos) x.env):=.of λr s e=>by
 obtain⟨xs,σ1,e1,e⟩:=Av e
 rw[e1]at hI
 obtain⟨ys,σ2,hf,e⟩:=Av e
 cases e
 intro Q hQ
 exact Vf (use:=none) hc hn hs hi he hI hf λD C m st nD nC n O p ns=>ns.imp λmm hm=>⟨hm,λh' hs=>by
  have k:=C0 hs
  refine Ac λXz hXz=>?_
  obtain⟨a,o,ea,ho,q,p'⟩:=O
  refine hXz ?_
  cases ea
  exact hQ (m.turn p h' m.t k) _ (st.drop nC k) ⟨⟨D,o,rfl,k _ _ n ho,q,⟨o,k _ _ n ho⟩,p'.G,p'.im,p'.base⟩,λa e=>Value.ref.inj e▸nD⟩⟩
end
end
section
open PySem PySem.W PySem.Calls PyProof.Rows
structure Z2(T:Th)(e:Expr)(v:Ev Sg):Prop extends SEv T e v where
 inn:Qg e v.val
 bas:C5 e=true→∀a env w,attributeBase e a env w=w
 fld:(∀env v,foldedSetIterable e env v=pure v)∨∀sc ρ s,v.itr sc ρ s=none∧v.val sc ρ s=none
 itr:∀(x:Ex T) σ(c:Cf x σ),Z9 c e (v.itr x.sc x.ρ σ)
 idx:∀(x:Ex T) σ(c:Cf x σ) o uo base p p',Vw T.F c.g c.h o uo→P2 c (v.idx o p x.sc x.ρ σ) (N8 base e x.env p' uo)
 cll:∀(x:Ex T) σ(c:Cf x σ) es vs r,Ot T es vs→P2 c (v.cll es.length (Mu vs) (evS T.I es vs) r x.sc x.ρ σ) (eval (.Call e es [] r) x.env)
section
variable{T:Th}{p:Pos}
theorem dP{e:Expr}{v:Ev Sg}(h:SEv T e v)(hs:Mh e){x:Ex T}{σ:Sg}(c:Cf x σ){o:V}{uo:Value}(base:Expr)(p':Pos)(ho:Vw T.F c.g c.h o uo):P2 c (b1 (v.val x.sc x.ρ σ) λi η s=>o1 (Hg o i s) λr=>some (r,s)) (N8 base e x.env p' uo):=
 .r1 (κ:=λi=>standAt p' >>=λη=>subscriptTail base e uo i) (λQ z=>wpAny_bind (wpAny_holding z)) (h.val x σ c) λv k σ' m u st r=>.at' (.new st.alive (A33 T.ok x.hA hs (ho.step st) r.vw))
theorem Z2.pl{e:Expr}{val:Fn Sg RV}{tst:Fn Sg Bool}{cll:Nat→Fn Sg (List RV)→Fn Sg RV→Pos→Fn Sg RV}(h:SEv T e {evV T.I p val with tst:=tst})(hb:C5 e=true→∀a env w,attributeBase e a env w=w)(hs:Mh e)(hi:∀rest env,starEach (e::rest) env=(false,eval e env)::starEach rest env)(hm:∀op,behindInMarks op e=false)(hf:∀env v,foldedSetIterable e env v=pure v)
  (hc:∀(x:Ex T) σ(c:Cf x σ) es vs r,Ot T es vs→P2 c (cll es.length (Mu vs) (evS T.I es vs) r x.sc x.ρ σ) (eval (.Call e es [] r) x.env)):Z2 T e {evV T.I p val with tst:=tst,cll:=cll} where
 val:=h.val
 tst:=h.tst
 inn:=.inl ⟨hi,hm⟩
 bas:=hb
 fld:=.inl hf
 itr:=λx σ c=>dT (h.val x σ c)
 idx:=λx σ c o uo base q p' ho=>dP h hs c base p' ho
 cll:=hc
theorem Z2.no{e:Expr}{idx:V→Pos→Fn Sg RV}(hb:∀a env w,attributeBase e a env w=w)(hi:∀(x:Ex T) σ(c:Cf x σ) o uo base p p',Vw T.F c.g c.h o uo→P2 c (idx o p x.sc x.ρ σ) (N8 base e x.env p' uo)):Z2 T e {evN T.I with idx:=idx} where
 val:=λη η η=>trivial
 tst:=λη η η=>trivial
 inn:=.inr λη η η=>rfl
 bas:=λη=>hb
 fld:=.inr λη η η=>⟨rfl,rfl⟩
 itr:=λη η η=>trivial
 idx:=hi
 cll:=λη η η η η η η=>trivial
theorem Z2.i{e:Expr}{v:Ev Sg}(h:Z2 T e v):SEv T e v∧Qg e v.val:=⟨h.toSEv,h.inn⟩
theorem bC{es:List Expr}{vs:List (Ev Sg)}(h:Ot T es vs){x:Ex T}{σ:Sg}(c:Cf x σ){e:Expr}{f:List Value→Sem Value}(rule:∀Q,wpAny T.F.M x.A (spliced (backTo p (starEach es x.env))) (λus s=>wpAny T.F.M x.A (f us) Q ff s) ff c.s→wpAny T.F.M x.A (eval e x.env) Q ff c.s){k:List RV→Sg→Option (RV×Sg)}
  (hk:∀rs σ'(m:Mo T.F x.b σ') us,Nx c.toMo m→Ou x m.g m.h rs us→Go x.A m (Lh x m.h) (k rs σ') (f us)):P2 c (b2 (Mu vs x.sc x.ρ σ) k) (eval e x.env):=.r2 rule (Y6 h p x c) λrs σ' m us st al=>.up st (hk rs σ' m us st al)
theorem C11{g:Gh}{h:Heap}{x:Ex T}{rs:List RV}{us:List Value}{xs:List PyData}(al:Ou x g h rs us)(hr:room rs.length=true)(e:Ek rs=some xs):us.length≤sizeLine∧∀t,cU g (Af t us.toArray 0) t xs:=
 have c:=eP al e
 have l:us.length≤I1:=al.length▸Dp hr
 ⟨Ct l,λt=>Iv (c.length▸l) c⟩
theorem A70{es:List Expr}{vs:List (Ev Sg)}{k:Nat}(h:Ot T es vs)(x:Ex T)(σ:Sg)(c:Cf x σ):P2 c (b2 (Mu vs x.sc x.ρ σ) λrs s=>o1 (B84 rs.length rs) λr=>some (r,s)) (eval (.Tuple es k p) x.env):=
 bC (p:=p) h c (f:=λus=>newObj (.type "tuple") (.seq us.toArray)) (λQ z=>by rw[arm_eval_Tuple];exact wpAny_bind (wpAny_standAt (wpAny_bind z))) λrs σ' m us st al=>.voi λhr r hx=>by
  obtain⟨xs,e,q⟩:=A4 hx
  cases q
  have f:=C11 al hr e
  have q:El T.F m.g (Af "tuple" us.toArray 0) (.tuple xs):=f.2 "tuple"
  exactλQ hQ=>wpAny_newObj_type (hQ (m.frz T.ok _ (.tuple xs) q) _ (m.frz_nx T.ok q) (m.frz_rel T.ok q)) f.1
theorem A73{es:List Expr}{vs:List (Ev Sg)}(h:Ot T es vs)(x:Ex T)(σ:Sg)(c:Cf x σ):P2 c (b2 (Mu vs x.sc x.ρ σ) λrs s=>o1 (B85 rs.length rs) λr=>some (r,s)) (eval (.List es p) x.env):=
 bC (p:=p) h c (f:=λus=>newObj (.type "list") (.seq us.toArray)) (λQ z=>by rw[arm_eval_List];exact wpAny_bind (wpAny_standAt (wpAny_bind z))) λrs σ' m us st al=>.voi λhr r hx=>by
  obtain⟨xs,e,q⟩:=A4 hx
  cases q
  have f:=C11 al hr e
  exactλQ hQ=>wpAny_newObj_type (hQ (m.push (Af "list" us.toArray 0)) _ (Ar _) (m.own (y:=.list xs) (f.2 "list") trivial)) f.1
theorem bV:∀{kvs:List (PyData×V)}{ds:List (PyData×PyData)},v5 kvs=some ds→kvs=dV ds
 |[],_,h=>by cases h;rfl
 |(k,.d y)::r,ds,h=>by
  obtain⟨l,e,h⟩:=A4 h
  cases h
  exact congrArg (List.cons _) (bV e)
 |(k,.o _)::r,ds,h=>Ao h
theorem A74{es:List Expr}{vs:List (Ev Sg)}{ks:List (Option Expr)}(h:Ot T es vs)(x:Ex T)(σ:Sg)(c:Cf x σ):P2 c (b2 (evX ks vs x.sc x.ρ σ) λkvs s=>o1 (v5 kvs) λkvs=>some ((.d (.dict kvs),.fr),s)) (eval (.Dict ks es p) x.env):=.of λr s e=>by
 obtain⟨kvs,s1,e1,e⟩:=Av e
 obtain⟨ds,e2,e⟩:=A4 e
 cases e
 cases bV e2
 have g:=bI (ks:=ks) (p:=p) h c
 rw[e1]at g
 exactλQ hQ=>g Q λm u st r=>hQ m u st (r.2.elim λD q=>q.2.dct.elim λes z=>(Heap.dictOf_iff.mp z.1).elim λo w=>⟨⟨D,o,q.1,w.1,⟨⟨Ag (Nat.le_of_eq (List.length_map ..).symm) r.1,es,w.2,z.2⟩,trivial⟩,q.2.prv⟩,λa e=>Value.ref.inj (q.1.symm.trans e)▸q.2.new⟩)
end
end
section
open PySem PySem.W PySem.Calls PyProof.Rows
section
variable{T:Th}{p:Pos}
noncomputable abbrev W8(T:Th)(e:Expr):Prop:=Z2 T e (ev T.I e)
noncomputable abbrev SEl(T:Th)(es:List Expr):Prop:=Ot T es (M1 T.I es)
noncomputable def SEc(T:Th)(gs:List Comprehension):Prop:=∀g,Ry T.I gs=some g→∃py it ifs,gs=[⟨.Name g.x py,it,ifs,0⟩]∧Z2 T it g.it∧Ot T ifs g.ifs
theorem Z2.pv{e:Expr}{val:Fn Sg RV}{tst:Fn Sg Bool}(h:SEv T e {evV T.I p val with tst:=tst})(hb:C5 e=true→∀a env w,attributeBase e a env w=w)(hs:Mh e)(hi:∀rest env,starEach (e::rest) env=(false,eval e env)::starEach rest env)(hm:∀op,behindInMarks op e=false)(hf:∀env v,foldedSetIterable e env v=pure v):Z2 T e {evV T.I p val with tst:=tst}:=
 .pl h hb hs hi hm hf λη η η η η η η=>trivial
theorem pT{y:Str}{p:Pos}:W8 T (.Name y p):=.pl (.plain (λx σ c=>tJ c) λη η=>rfl) (λη η η η=>rfl) (λη η=>rfl) (λη η=>rfl) (λη=>rfl) (λη η=>rfl) λx σ c es vs r h=>.vi λhg=>match e:sq y "isinstance" with
 |true=>A50 h c (Ga hg) e
 |false=>m8 h c (Ga hg)
theorem gL{e:Expr}(hb:∀a env w,attributeBase e a env w=w):Z2 T e (evN T.I):=.no hb λη η η η η η η η η=>trivial
theorem B32{op:UnaryOp}{e:Expr}(h:W8 T e):W8 T (.UnaryOp op e p):=match op with
 |.Not=>.pv (A71 h.toSEv) (λη η η η=>rfl) (λη η=>rfl) (λη η=>rfl) (λη=>rfl) λη η=>rfl
 |.USub=>.pv (A72 h.toSEv) (λη η η η=>rfl) (λη η=>rfl) (λη η=>rfl) (λη=>rfl) λη η=>rfl
 |.UAdd=>gL λη η η=>rfl
 |.Invert=>gL λη η η=>rfl
theorem pW{e:Expr}{a:Str}(h:W8 T e):W8 T (.Attribute e a p):=.pl (.plain (uO h.toSEv h.bas) λη η=>rfl) (λη η η η=>rfl) (λη η=>rfl) (λη η=>rfl) (λη=>rfl) (λη η=>rfl) λx σ c es vs r hs=>m9 h.toSEv hs c h.bas
theorem yM{e i:Expr}(h1:W8 T e)(h2:W8 T i):W8 T (.Subscript e i p):=.pv (.plain (λx σ c=>.r1 (κ:=λo=>N8 e i x.env p o) (λQ z=>by rw[arm_eval_Subscript];exact wpAny_bind z) (h1.val x σ c) λv k σ' m u st r=>.up st (h2.idx x σ' (c.go m st) v u e p p r.vw)) λη η=>rfl) (λη η η η=>rfl) (λη η=>rfl) (λη η=>rfl) (λη=>rfl) λη η=>rfl
theorem pU{elt:Expr}{gs:List Comprehension}{cs:Scope}(he:W8 T elt)(hg:SEc T gs):W8 T (.ListComp elt gs cs p):=.pv (.plain (λx σ c=>.vo λg e=>.vi λhb=>by
 refine Ac λXz hXz=>?_
 obtain⟨py,it,ifs,rfl,hi,hl⟩:=hg g e
 refine hXz ?_
 have hb:=Ab hb
 exact hi.fld.elim (λhf=>tO (Q6 hb.1) hb.2 (hf x.env) (hl.imp λη η q=>q.1) he.toSEv (hi.itr x σ c)) λhn=>by
  show Go _ _ _ (b2 (g.it.itr x.sc x.ρ σ) _) _
  rw[(hn _ _ _).1];trivial) λη η=>rfl) (λη η η η=>rfl) (λη η=>rfl) (λη η=>rfl) (λη=>rfl) λη η=>rfl
theorem nP{f:Expr}{args:List Expr}{ks:List Keyword}(h:C5 (.Call f args ks p)=true):∀a env w,attributeBase (.Call f args ks p) a env w=w:=by
 intro a env w
 cases args
 ·exact nomatch (Ab h).2
 ·cases f<;>first|rfl|exact nomatch (Ab h).1
theorem gN{f:Expr}{args:List Expr}{ks:List Keyword}(h1:W8 T f)(h2:SEl T args):Z2 T (.Call f args ks p) (evV T.I p (match ks with
  |[]=>(ev T.I f).cll args.length (Mu (M1 T.I args)) (evS T.I args (M1 T.I args)) p
  |_=>λη η η=>none)):=.pv (.plain (λx σ c=>match ks with
   |[]=>h1.cll x σ c args _ p h2
   |_::_=>trivial) λη η=>rfl) nP (λη η=>rfl) (λη η=>rfl) (λη=>rfl) λη η=>rfl
theorem pV{f:Expr}{args:List Expr}{ks:List Keyword}(h1:W8 T f)(h2:SEl T args):W8 T (.Call f args ks p):=by
 have h0:=gN (p:=p) (ks:=ks) h1 h2
 show Z2 T _ (evR T.I f (M1 T.I args) ks p _)
 revert h0
 generalize evV T.I p _=v
 intro h0
 unfold evR
 cases e1:cX f ks with
 |none=>exact h0
 |some f'=>
  cases args with
  |nil=>exact h0
  |cons e r=>cases r with
   |cons _ _=>exact h0
   |nil=>
    obtain⟨hk,e1⟩:=B7 e1
    obtain⟨_,e2,e1⟩:=A4 e1
    obtain⟨hq,e1⟩:=B7 e1
    cases e1
    obtain⟨q,rfl⟩:=Bq e2
    cases Bm.mp hq
    cases ks with
    |cons _ _=>exact Bool.noConfusion hk
    |nil=>
     cases h2 with
     |cons he _=>
      refine{h0 with fld:=.inl λη η=>rfl,itr:=λx σ c=>?_}
      show Z9 c _ (iB (Nz x.sc "range") _)
      cases e3:Nz x.sc "range"
      ·trivial
      ·exact u7 c he.1 he.2 (Ga e3)
theorem gM{t it:Expr}{ifs:List Expr}{k:Int}{gs:List Comprehension}(h1:W8 T it)(h2:SEl T ifs):SEc T (⟨t,it,ifs,k⟩::gs):=λg h=>by
 obtain⟨y,e1,e2⟩:=A4 h
 cases e2
 obtain⟨hb,e1⟩:=B7 e1
 have hb:=Ab hb
 obtain⟨py,rfl⟩:=Bq e1
 cases of_decide_eq_true hb.1
 cases gs with
 |nil=>exact⟨py,it,ifs,rfl,h1,h2⟩
 |cons _ _=>exact nomatch hb.2
theorem yN{e:Expr}(h:out e=true):W8 T e:=by
 show Z2 T e _
 rw[Rx h]
 exact gL λη η η=>by cases e<;>first|rfl|exact Bool.noConfusion h
theorem sx(e:Expr):W8 T e:=
 Uz (P:=W8 T) (L:=SEl T) (O:=λo=>OE T o (evo T.I o)) (C:=SEc T)
  (λη η η=>.pv mS (λη η η η=>rfl) (λη η=>rfl) (λη η=>rfl) (λη=>rfl) λη η=>rfl)
  (λη η=>pT)
  (λη η η h=>.pv (uM h) (λη η η η=>rfl) (λη η=>rfl) (λη η=>rfl) (λη=>rfl) λη η=>rfl)
  (λη η η η h1 h2=>.pv (A76 h1.toSEv h2.toSEv) (λη η η η=>rfl) (λη η=>rfl) (λη η=>rfl) (λη=>rfl) λη η=>rfl)
  (λη η η h=>B32 h)
  (λη η η η h1 h2 h3=>.pv (mR h1.toSEv h2.toSEv h3.toSEv) (λη η η η=>rfl) (λη η=>rfl) (λη η=>rfl) (λη=>rfl) λη η=>rfl)
  (λη η η η h1 h2=>.pv (A75 h1.toSEv h2) (λη η η η=>rfl) (λη η=>rfl) (λη η=>rfl) (λη=>rfl) λη η=>rfl)
  (λη η η h=>pW h)
  (λη η η h1 h2=>yM h1 h2)
  (λη η η η h1 h2 h3=>.no (λη η η=>rfl) λη η c η η η η η ho=>lU h1 h2 h3 c ho)
  (λη η η h=>.pv (.plain (A70 h) λη η=>rfl) (λη η η η=>rfl) (λη η=>rfl) (λη η=>rfl) (λη=>rfl) λη η=>rfl)
  (λη η h=>.pv (.plain (A73 h) λη η=>rfl) (λη η η η=>rfl) (λη η=>rfl) (λη η=>rfl) (λη=>rfl) λη η=>rfl)
  (λη η η h=>.pv (.plain (A74 h) λη η=>rfl) (λη η η η=>rfl) (λη η=>rfl) (λη η=>rfl) (λη=>rfl) λη η=>rfl)
  (λη η η η he hg=>pU he hg)
  (λη η η η h1 h2=>pV h1 h2)
  (λη h=>yN h)
  .nil (λη η h1 h2=>.cons h1.i h2) .none (λη h=>.some h.toSEv) (λη h=>Ao h) (λη η η η η h1 h2=>gM h1 h2) e
theorem sxs:∀es:List Expr,SEl T es
 |[]=>.nil
 |e::es=>.cons (sx e).i (sxs es)
end
end
section
open PySem PySem.W PySem.Calls PyProof.Rows
structure vU(env:Env):Prop where
 cl:∀x c,env.cells.lookup x=some c→c≠env.locals
 cc:∀x y c,env.cells.lookup x=some c→env.cells.lookup y=some c→x=y
structure Pl(T:Th) where
 b:Shared
 A:Around
 env:Env
 sc:Scope
 hA:Rm T.d A
 hE:Ma env sc
 hC:vU env
noncomputable abbrev Pl.ex{T:Th}(p:Pl T)(ρ:A1):Ex T:=⟨p.b,p.A,p.env,p.sc,ρ,p.hA,p.hE⟩
structure An where
 n:Heap
 g:Gh
 W:Addr→Prop
noncomputable def FP(env:Env)(ρ:A1)(h:Heap)(a:Addr):Prop:=Oy env a∨∃x v,lk x ρ=some (.own,v)∧B4 env h x (.ref a)
noncomputable def Oth(env:Env)(ρ:A1)(h:Heap)(x:Str)(a:Addr):Prop:=∃y t w,y≠x∧lk y ρ=some (t,w)∧t≠.val∧B4 env h y (.ref a)
structure FS{T:Th}(k:An)(p:Pl T)(ρ:A1)(σ:Sg) extends Cf (p.ex ρ) σ where
 st:De k.W k.g k.n g h
 new:∀a,FP p.env ρ h a→k.W a∨k.n.get? a=none
 ns:∃m,h.Ns p.env.locals m
 cell:∀x c,p.env.cells.lookup x=some c→∃v,h.IsCell c v
 sep:∀x s v a,lk x ρ=some (s,v)→s≠.val→B4 p.env h x (.ref a)→¬Oy p.env a∧(s=.own→¬Oth p.env ρ h x a)
section
variable{env:Env}{h h':Heap}
theorem Dk(k:∀a,Oy env a→h'.get? a=h.get? a){x:Str}{u:Value}:B4 env h x u→B4 env h' x u:=Ic λa o q e=>(k a q).trans e
theorem Xi{a:Addr}{m m':Str→Option Value}(p:h.Ns a m)(q:h.Ns a m')(x:Str):m x=m' x:=by
 refine Ac λXz hXz=>?_
 obtain⟨o,es,ep,ho,hd,_,hm⟩:=p
 obtain⟨o',es',ep',ho',hd',_,hm'⟩:=q
 refine hXz ?_
 cases ho.symm.trans ho'
 cases hd.symm.trans hd'
 exact(hm x).symm.trans (hm' x)
theorem Hv{x:Str}{u v:Value}(p:B4 env h x u)(q:B4 env h x v):u=v:=
 p.elim (λp=>q.elim (λq=>p.2.elim λm n=>q.2.elim λm' n'=>Cd (n.2.symm.trans ((Xi n.1 n'.1 x).trans n'.2))) λq=>nomatch p.1.symm.trans q.1) λp=>q.elim (λq=>nomatch q.1.symm.trans p.1) λq=>p.2.elim λc r=>q.2.elim λc' r'=>r.2.elim λo z=>r'.2.elim λo' z'=>
  have e:o=o':=Cd (z.1.symm.trans ((Cd (r.1.symm.trans r'.1)▸rfl:h.get? c=h.get? c').trans z'.1))
  Cd (Data.cell.inj (z.2.symm.trans ((congrArg Obj.data e).trans z'.2)))
theorem L2{x:Str}{u:Value}(p:B4 env h x u):Wg env x:=p.imp And.left And.left
end
theorem Jh{α:Type}{x y:Str}{v:α}{l:List (Str×α)}(n:x≠y):lk x (up y v l)=lk x l:=(Fi ..).trans (if_neg n)
theorem B25{α:Type}{x:Str}{v:α}{l:List (Str×α)}:lk x (up x v l)=some v:=(Fi ..).trans (if_pos rfl)
section
variable{T:Th}{k:An}{p:Pl T}{ρ ρ':A1}{σ σ':Sg}
theorem Td{F:Cc}{g:Gh}{h:Heap}{s:SK}{v:V}{u:Value}(hs:s≠.val)(r:Ef F g h s v u):Bh F g h v u:=by
 refine Ac λXz hXz=>?_
 cases s
 ·refine hXz ?_
  exact absurd rfl hs
 ·refine hXz ?_
  exact r
 ·refine hXz ?_
  exact r
theorem FS.own(c:FS k p ρ σ){x:Str}{s:SK}{v:V}{u:Value}(e:lk x ρ=some (s,v))(hs:s≠.val)(hu:B4 p.env c.h x u):Bh T.F c.g c.h v u:=
 (c.loc x s v e (L2 hu)).elim λu' q=>Hv q.1 hu▸Td hs q.2
noncomputable abbrev FS.re(c:FS k p ρ σ)(m:Mo T.F p.b σ')(st:De k.W k.g k.n m.g m.h)(fr:Li T.F m.g m.h p.env)(kf:∀a,Oy p.env a→m.h.get? a=c.h.get? a)(sl:∀x s v u,lk x ρ=some (s,v)→B4 p.env c.h x u→Ef T.F c.g c.h s v u→Ef T.F m.g m.h s v u):FS k p ρ σ':=
 have fw:∀{x u},B4 p.env c.h x u→B4 p.env m.h x u:=Dk kf
 have bw:∀{x u},B4 p.env m.h x u→B4 p.env c.h x u:=Dk λa q=>(kf a q).symm
 {m with
  fr:=fr
  loc:=λx s v e q=>(c.loc x s v e q).imp λu z=>⟨fw z.1,sl x s v u e z.1 z.2⟩
  st:=st
  new:=λa q=>c.new a (q.imp id (Exists.imp λx=>Exists.imp λv z=>⟨z.1,bw z.2⟩))
  ns:=c.ns.imp λη=>Cj λo e=>(kf _ (.inl rfl)).trans e
  cell:=λx a e=>(c.cell x a e).imp λv q=>q.imp λo z=>⟨(kf a (.inr ⟨x,e⟩)).trans z.1,z.2⟩
  sep:=λx s v a e hs z=>⟨(c.sep x s v a e hs (bw z)).1,λq o=>(c.sep x s v a e hs (bw z)).2 q (o.imp λy=>Exists.imp λt=>Exists.imp λw r=>⟨r.1,r.2.1,r.2.2.1,bw r.2.2.2⟩)⟩}
noncomputable def Wb(env:Env)(ρ:A1)(h:Heap)(a:Addr):Prop:=Oy env a∨∃x s v,lk x ρ=some (s,v)∧s≠.val∧B4 env h x (.ref a)
theorem Bh.here{F:Cc}{g:Gh}{h:Heap}{v:V}{a:Addr}(r:Bh F g h v (.ref a)):∃o,h.get? a=some o:=by
 refine Ac λXz hXz=>?_
 cases v
 ·refine hXz ?_
  exact r.elim λb q=>q.elim λo q=>⟨o,Value.ref.inj q.1▸q.2.1⟩
 ·refine hXz ?_
  exact r.elim
theorem FS.here(c:FS k p ρ σ){a:Addr}(q:Wb p.env ρ c.h a):∃o,c.h.get? a=some o:=q.elim (λq=>(c.fr a q).here) λq=>q.elim λx q=>q.elim λs q=>q.elim λv q=>(c.own q.1 q.2.1 q.2.2).here
noncomputable abbrev FS.mv(c:FS k p ρ σ)(m:Mo T.F p.b σ'){P:Addr→Prop}(t:De P c.g c.h m.g m.h)(hP:∀a,Wb p.env ρ c.h a→¬P a)(hN:∀a,P a→k.W a∨k.n.get? a=none):FS k p ρ σ':=
 c.re m (c.st.trans t hN) (λa q=>(c.fr a q).step t (hP a (.inl q))) (λa q=>(c.fr a q).here.elim λo ho=>(t.keep a o ho (c.fr a q).im (hP a (.inl q))).trans ho.symm) λx s v u e z r=>G4 t (λhs a ea=>hP a (.inr ⟨x,s,v,e,hs,ea▸z⟩)) r
noncomputable abbrev FS.nx(c:FS k p ρ σ)(m:Mo T.F p.b σ')(t:Nx c.toMo m):FS k p ρ σ':=c.mv m t (λη η=>id) λη=>False.elim
noncomputable abbrev FS.gone(c:FS k p ρ σ){a:Addr}(pa:Hi T.F c.g c.h a)(na:k.n.get? a=none)(nr:¬Wb p.env ρ c.h a)(h':Heap)(t:Nat)(kp:∀b o,b≠a→c.h.get? b=some o→h'.get? b=some o):FS k p ρ σ:=
 have kk:∀b,Wb p.env ρ c.h b→∀o,c.h.get? b=some o→h'.get? b=some o:=λb q o=>kp b o λe=>nr (e▸q)
 have pk:∀b,Wb p.env ρ c.h b→Hi T.F c.g c.h b→Hi T.F c.g h' b:=λb q z=>⟨z.here.imp (kk b q),z.G,z.im,z.base⟩
 have ok:∀{x s v u},lk x ρ=some (s,v)→s≠.val→B4 p.env c.h x u→Bh T.F c.g c.h v u→Bh T.F c.g h' v u:=λ{x s v u} e hs z r=>by
  cases v
  ·exact r.elim λb r=>r.elim λo r=>have q:Wb p.env ρ c.h b:=.inr ⟨x,s,_,e,hs,r.1▸z⟩;⟨b,o,r.1,kk b q o r.2.1,r.2.2.1,pk b q r.2.2.2⟩
  ·exact r
 c.re (c.toMo.turn pa h' t kp) (c.st.drop na kp) (λb q=>pk b (.inl q) (c.fr b q)) (λb q=>(c.fr b q).here.elim λo ho=>(kk b (.inl q) o ho).trans ho.symm) λx s v u e z r=>by
  cases s
  ·exact r
  ·exact ok e (λh=>nomatch h) z r
  ·exact ok e (λh=>nomatch h) z r
noncomputable abbrev FS.upd(c:FS k p ρ σ)(m:Mo T.F p.b σ'){a:Addr}{x:Str}{s:SK}{v:V}(t:De (· =a) c.g c.h m.g m.h)(ha:k.W a∨k.n.get? a=none)(na:¬Oth p.env ρ c.h x a)(fr:Li T.F m.g m.h p.env)
  (fw:∀y u,y≠x→B4 p.env c.h y u→B4 p.env m.h y u) (bw:∀y u,y≠x→B4 p.env m.h y u→B4 p.env c.h y u)
  (hx:Wg p.env x→∃u,B4 p.env m.h x u∧Ef T.F m.g m.h s v u∧(s≠.val→∀b,u=.ref b→¬Oy p.env b∧¬Oth p.env ρ c.h x b∧(k.W b∨k.n.get? b=none)))
  (ns:∃mm,m.h.Ns p.env.locals mm) (cell:∀x c,p.env.cells.lookup x=some c→∃v,m.h.IsCell c v):FS k p (up x (s,v) ρ) σ':=
 have sf:∀{t w},lk x (up x (s,v) ρ)=some (t,w)→t=s∧w=v:=λe=>Prod.mk.inj (Cd (e.symm.trans B25))
 have xs:∀{t w b},lk x (up x (s,v) ρ)=some (t,w)→t≠.val→B4 p.env m.h x (.ref b)→¬Oy p.env b∧¬Oth p.env ρ c.h x b∧(k.W b∨k.n.get? b=none):=λe ht z=>(hx (L2 z)).elim λu q=>q.2.2 ((sf e).1▸ht) _ (Hv q.1 z)
 {m with
  fr:=fr
  loc:=λy t' w e ky=>(Classical.em (y=x)).elim (λq=>by subst q;exact(hx ky).imp λu z=>⟨z.1,(sf e).1▸(sf e).2▸z.2.1⟩) λn=>(c.loc y t' w ((Jh n).symm.trans e) ky).imp λu z=>⟨fw y u n z.1,G4 t (λhs b eb q=>na ⟨y,t',w,n,(Jh n).symm.trans e,hs,q▸eb▸z.1⟩) z.2⟩
  st:=c.st.trans t λb q=>q▸ha
  new:=λb q=>q.elim (λq=>c.new b (.inl q)) λq=>q.elim λy q=>q.elim λw z=>(Classical.em (y=x)).elim (λq=>(xs (t:=.own) (w:=w) (q▸z.1) (λh=>nomatch h) (q▸z.2)).2.2) λn=>c.new b (.inr ⟨y,w,(Jh n).symm.trans z.1,bw y _ n z.2⟩)
  ns:=ns
  cell:=cell
  sep:=λy t' w b e hs z=>(Classical.em (y=x)).elim (λq=>⟨(xs (q▸e) hs (q▸z)).1,λη o=>(xs (q▸e) hs (q▸z)).2.1 (o.imp λy'=>Exists.imp λt=>Exists.imp λw r=>have n:y'≠x:=λe=>r.1 (e.trans q.symm);⟨n,(Jh n).symm.trans r.2.1,r.2.2.1,bw _ _ n r.2.2.2⟩)⟩)
   λn=>⟨(c.sep y t' w b ((Jh n).symm.trans e) hs (bw y _ n z)).1,λq o=>o.elim λy' o=>o.elim λt o=>o.elim λw' r=>(Classical.em (y'=x)).elim (λq1=>(xs (q1▸r.2.1) r.2.2.1 (q1▸r.2.2.2)).2.1 ⟨y,t',w,n,(Jh n).symm.trans e,hs,bw y _ n z⟩) λn'=>(c.sep y t' w b ((Jh n).symm.trans e) hs (bw y _ n z)).2 q ⟨y',t,w',r.1,(Jh n').symm.trans r.2.1,r.2.2.1,bw _ _ n' r.2.2.2⟩⟩}
end
end
section
open PySem PySem.W PySem.Calls PyProof.Rows
section
variable{T:Th}{k:An}{p:Pl T}{ρ ρ':A1}{σ σ':Sg}{x:Str}{s:SK}{v:V}{u:Value}
theorem FS.fresh(c:FS k p ρ σ){a:Addr}(e:c.h.get? a=none):¬Wb p.env ρ c.h a:=λq=>(c.here q).elim λη ho=>Fc e ho
theorem Oth.rch{env:Env}{h:Heap}{a:Addr}:Oth env ρ h x a→Wb env ρ h a:=λo=>.inr (o.imp λy=>Exists.imp λt=>Exists.imp λw=>And.right)
structure xW(c:FS k p ρ σ)(m:Mo T.F p.b σ')(s:SK)(v:V)(u:Value):Prop where
 st:Nx c.toMo m
 nb:s≠.bor
 r:Ef T.F m.g m.h s v u
 new:s≠.val→∀a,u=.ref a→c.h.get? a=none
structure Wrt(env:Env)(h h':Heap)(x:Str)(u:Value)(a:Addr):Prop where
 fa:Oy env a
 hs:Heap.SameBut a h h'
 n:∃o,h'.get? a=some o
 hx:B4 env h' x u
 eq:∀y u,y≠x→(B4 env h y u↔B4 env h' y u)
 ns:∃mm,h'.Ns env.locals mm
 cell:∀x c,env.cells.lookup x=some c→∃v,h'.IsCell c v
theorem FS.nxb(c:FS k p ρ σ){m:Mo T.F p.b σ'}(st:Nx c.toMo m){y:Str}:B4 p.env m.h y u→B4 p.env c.h y u:=Dk λa q=>(c.fr a q).here.elim λo ho=>ho.trans (st.keep a o ho (c.fr a q).im id).symm
noncomputable abbrev FS.wr(c:FS k p ρ σ){m:Mo T.F p.b σ'}(S:xW c m s v u){a:Addr}{h':Heap}(t:Nat)(W:Wrt p.env m.h h' x u a):FS k p (up x (s,v) ρ) σ':=
 have fr1:Li T.F m.g m.h p.env:=(c.nx m S.st).fr
 have pa:=fr1 a W.fa
 have fresh:s≠.val→∀b,u=.ref b→¬Wb p.env ρ c.h b:=λhs b e=>c.fresh (S.new hs b e)
 have pv:=De.priv (g:=m.g) W.hs W.n
 (c.nx m S.st).upd (m.turn pa h' t (C0 W.hs)) pv ((c.nx m S.st).new a (.inl W.fa)) (λo=>o.elim λy o=>o.elim λt o=>o.elim λw r=>((c.nx m S.st).sep y t w a r.2.1 r.2.2.1 r.2.2.2).1 W.fa) (λb q=>(Classical.em (b=a)).elim (λe=>e▸pa.priv W.n) λe=>(fr1 b q).step pv e) (λy u n=>(W.eq y u n).mp) (λy u n=>(W.eq y u n).mpr)
  (λη=>⟨u,W.hx,G4 pv (λhv b e q=>fresh hv b e (.inl (q▸W.fa))) S.r,λhv b e=>⟨λq=>fresh hv b e (.inl q),λo=>fresh hv b e (Oth.rch (o.imp λy=>Exists.imp λt=>Exists.imp λw r=>⟨r.1,r.2.1,r.2.2.1,c.nxb S.st (show B4 p.env m.h y _ from r.2.2.2)⟩)),.inr (c.st.alive.fresh (S.new hv b e))⟩⟩) W.ns W.cell
theorem FS.wr_rch(c:FS k p ρ σ){m:Mo T.F p.b σ'}(S:xW c m s v u){a:Addr}{h':Heap}(W:Wrt p.env m.h h' x u a){z:Addr}(q:Wb p.env (up x (s,v) ρ) h' z):Wb p.env ρ c.h z∨u=.ref z:=
 q.elim (λq=>.inl (.inl q)) λq=>q.elim λy q=>q.elim λt q=>q.elim λw r=>(Classical.em (y=x)).elim (λe=>.inr (Hv W.hx (e▸r.2.2))) λn=>.inl (.inr ⟨y,t,w,(Jh n).symm.trans r.1,r.2.1,c.nxb S.st ((W.eq y _ n).mpr r.2.2)⟩)
theorem t6{env:Env}{h h':Heap}{mm:Str→Option Value}(n:h.Ns env.locals mm)(n':h'.Ns env.locals λy=>if y=x then some u else mm y)(kc:∀y c,env.cells.lookup y=some c→h'.get? c=h.get? c)(y:Str)(w:Value)(ne:y≠x):B4 env h y w↔B4 env h' y w:=
 ⟨.imp (λq=>⟨q.1,q.2.elim λm' r=>⟨_,n',(if_neg ne).trans ((Xi n r.1 y).trans r.2)⟩⟩) λq=>⟨q.1,q.2.imp λc r=>⟨r.1,r.2.imp λo z=>⟨(kc y c r.1).trans z.1,z.2⟩⟩⟩,
  .imp (λq=>⟨q.1,q.2.elim λm' r=>⟨_,n,(if_neg ne).symm.trans ((Xi n' r.1 y).trans r.2)⟩⟩) λq=>⟨q.1,q.2.imp λc r=>⟨r.1,r.2.imp λo z=>⟨(kc y c r.1).symm.trans z.1,z.2⟩⟩⟩⟩
theorem t8{env:Env}(hC:vU env){h h':Heap}{c:Addr}(hc:env.cells.lookup x=some c)(ko:∀a,a≠c→h'.get? a=h.get? a)(y:Str)(w:Value)(ne:y≠x):B4 env h y w↔B4 env h' y w:=
 have nl:env.locals≠c:=λe=>hC.cl x c hc e.symm
 have nc:∀c',env.cells.lookup y=some c'→c'≠c:=λc' h e=>ne (hC.cc y x c (e▸h) hc)
 ⟨.imp (λq=>⟨q.1,q.2.imp λm r=>⟨Cj (λo e=>(ko _ nl).trans e) r.1,r.2⟩⟩) λq=>⟨q.1,q.2.imp λc r=>⟨r.1,r.2.imp λo z=>⟨(ko c (nc c r.1)).trans z.1,z.2⟩⟩⟩,
  .imp (λq=>⟨q.1,q.2.imp λm r=>⟨Cj (λo e=>(ko _ nl).symm.trans e) r.1,r.2⟩⟩) λq=>⟨q.1,q.2.imp λc r=>⟨r.1,r.2.imp λo z=>⟨(ko c (nc c r.1)).symm.trans z.1,z.2⟩⟩⟩⟩
theorem FS.store(c:FS k p ρ σ){m:Mo T.F p.b σ'}(S:xW c m s v u)(hk:Wg p.env x){E:Value→Shared→Prop}{Q:Unit→Shared→Prop}
  (hQ:∀c':FS k p (up x (s,v) ρ) σ',(∀b,¬Oy p.env b→c'.h.get? b=m.h.get? b)→c'.g=m.g→(∀z,Wb p.env (up x (s,v) ρ) c'.h z→Wb p.env ρ c.h z∨u=.ref z)→Q () c'.s):wpAny T.F.M p.A (storeName p.env x u) Q E m.s:=by
 have hw:∀a h1 t,Wrt p.env m.h h1 x u a→Q () {p.b with heap:=h1,toks:=t}:=λa h1 t W=>hQ (c.wr S t W) (λb nb=>W.hs.2 b λq=>nb (q▸W.fa)) rfl λη=>c.wr_rch S W
 refine Exists.elim (c.nx m S.st).ns λmm hm=>?_
 have cl:=(c.nx m S.st).cell
 exact hk.elim (λhk=>wpAny_storeName_local (s:=m.s) hk hm (λh1 hn1 hs1=>
  have kc:∀y a,p.env.cells.lookup y=some a→h1.get? a=m.h.get? a:=λy a e=>hs1.2 a (p.hC.cl y a e)
  hw p.env.locals h1 (m.t+1) ⟨.inl rfl,hs1,hn1.elim λo q=>q.elim λη q=>q.elim λη q=>⟨o,q.1⟩,.inl ⟨hk,_,hn1,if_pos rfl⟩,t6 hm hn1 kc,⟨_,hn1⟩,λy a e=>(cl y a e).imp λv q=>q.imp λo z=>⟨(kc y a e).trans z.1,z.2⟩⟩) (by rw[p.hE.kind];rfl))
  λhk=>(p.hE.cells x hk).elim λa ha=>(cl x a ha).elim λv0 hv0=>wpAny_storeName_cell (s:=m.s) p.hE.kind hk ha hv0 λh1 hn1 hs1=>
   hw a h1 m.t ⟨.inr ⟨x,ha⟩,hs1,hn1.imp λo z=>z.1,.inr ⟨hk,a,ha,hn1⟩,t8 p.hC ha λb n=>hs1.2 b n,⟨mm,Cj (λo e=>(hs1.2 _ λe=>p.hC.cl x a ha e.symm).trans e) hm⟩,λy b e=>(Classical.em (b=a)).elim (λq=>q▸⟨_,hn1⟩) λn=>(cl y b e).imp λv q=>q.imp λo z=>⟨(hs1.2 b n).trans z.1,z.2⟩⟩
end
end
section
open PySem PySem.W PySem.Calls PyProof.Rows
section
variable{T:Th}{k:An}{p:Pl T}{ρ ρ':A1}{σ σ':Sg}{x:Str}{s:SK}{v:V}{u:Value}
theorem FS.nfr(c:FS k p ρ σ){a b:Addr}(e:lk x ρ=some (.own,v))(hx:B4 p.env c.h x (.ref a))(q:Oy p.env b):b≠a:=λn=>(c.sep x .own v a e (λh=>nomatch h) hx).1 (n▸q)
theorem Bh.prv{F:Cc}{g:Gh}{h:Heap}{v:V}{a:Addr}(r:Bh F g h v (.ref a)):Hi F g h a:=by
 cases v
 ·exact r.elim λb q=>q.elim λo q=>Value.ref.inj q.1▸q.2.2.2
 ·exact r.elim
noncomputable abbrev FS.io(c:FS k p ρ σ){a:Addr}(e:lk x ρ=some (.own,v))(hx:B4 p.env c.h x (.ref a))(m:Mo T.F p.b σ')(t:De (· =a) c.g c.h m.g m.h){w:V}(o:Bh T.F m.g m.h w (.ref a)):FS k p (up x (.own,w) ρ) σ':=
 have nf:∀b,Oy p.env b→b≠a:=λb=>c.nfr e hx
 have sp:=c.sep x .own v a e (λh=>nomatch h) hx
 have kf:∀b,Oy p.env b→m.h.get? b=c.h.get? b:=λb q=>(c.fr b q).here.elim λo ho=>(t.keep b o ho (c.fr b q).im (nf b q)).trans ho.symm
 have ha:=c.new a (.inr ⟨x,v,e,hx⟩)
 c.upd m t ha (sp.2 rfl) (λb q=>(c.fr b q).step t (nf b q)) (λη η η=>Dk kf) (λη η η=>Dk λb q=>(kf b q).symm)
  (λη=>⟨.ref a,Dk kf hx,o,λη b eb=>Value.ref.inj eb▸⟨sp.1,sp.2 rfl,ha⟩⟩) (c.ns.imp λmm=>Cj λo e=>(kf _ (.inl rfl)).trans e) λy b e=>(c.cell y b e).imp λv q=>q.imp λo z=>⟨(kf b (.inr ⟨y,e⟩)).trans z.1,z.2⟩
noncomputable abbrev FS.turn(c:FS k p ρ σ){a:Addr}(e:lk x ρ=some (.own,v))(hx:B4 p.env c.h x (.ref a)){h':Heap}(t:Nat)(hs:Heap.SameBut a c.h h'){o:Obj}{y:PyData}(ho:h'.get? a=some o)(hy:El T.F c.g o y∧zN y):FS k p (up x (.own,.d y) ρ) σ:=
 have pa:Hi T.F c.g c.h a:=(c.own e (λh=>nomatch h) hx).prv
 c.io e hx (c.toMo.turn pa h' t (C0 hs)) (.priv hs ⟨o,ho⟩) (w:=.d y) ⟨a,o,rfl,ho,hy,pa.priv ⟨o,ho⟩⟩
theorem a2{A B G:Prop}(h:A∧B)(k:A→B→G):G:=k h.1 h.2
theorem a3{A B C G:Prop}(h:A∧B∧C)(k:A→B→C→G):G:=k h.1 h.2.1 h.2.2
theorem a4{A B C D G:Prop}(h:A∧B∧C∧D)(k:A→B→C→D→G):G:=k h.1 h.2.1 h.2.2.1 h.2.2.2
theorem x12{α:Sort _}{A B:α→Prop}{G:Prop}(h:∃a,A a∧B a)(k:∀a,A a→B a→G):G:=h.elim λa q=>k a q.1 q.2
theorem x24{α β:Sort _}{A B C D:α→β→Prop}{G:Prop}(h:∃a b,A a b∧B a b∧C a b∧D a b)(k:∀a b,A a b→B a b→C a b→D a b→G):G:=h.elim λa q=>q.elim λb q=>k a b q.1 q.2.1 q.2.2.1 q.2.2.2
noncomputable def FS.Frz(c:FS k p ρ σ)(x:Str)(ρ':A1):Prop:=∃c':FS k p ρ' σ,c'.s=c.s∧Gm c.g c'.g∧∀v u,lk x ρ=some (.own,v)→B4 p.env c.h x u→rel c'.g v u
theorem FS.frz_own(c:FS k p ρ σ)(e:lk x ρ=some (.own,v))(hu:B4 p.env c.h x u)(r:Bh T.F c.g c.h v u):c.Frz x (up x (.val,v) ρ):=by
 cases v
 ·as_aux_lemma=>
   refine x24 r λa o ea ho hs pa=>?_
   subst ea
   have sp:=c.sep x .own _ a e (λh=>nomatch h) hu
   have rl:=Qv (g:=c.g) _ a (Nb hs.1)
   exact⟨c.upd {c.toMo with g:=c.g.add a _,inv:=So T.ok c.inv ho hs.1 pa} (Mz pa.G) (c.new a (.inr ⟨x,_,e,hu⟩)) (sp.2 rfl) (λb q=>(c.fr b q).step (Mz pa.G) (c.nfr e hu q)) (λη η η=>id) (λη η η=>id) (λη=>⟨_,hu,rl,λn=>absurd rfl n⟩) c.ns c.cell,rfl,Yy pa.G,λv' u' e' hu'=>Hv hu hu'▸(Prod.mk.inj (Cd (e.symm.trans e'))).2▸rl⟩
 ·exact r.elim
theorem FS.frz_up(c:FS k p ρ σ)(e:lk x ρ=some (.own,v)):c.Frz x (up x (.val,v) ρ):=(Classical.em (Wg p.env x)).elim
 (λhk=>x12 (c.loc x .own v e hk) λu hu r=>c.frz_own e hu r)
 λhk=>⟨c.upd c.toMo (a:=p.env.locals) .refl (c.new _ (.inl (.inl rfl))) (λo=>o.elim λy o=>o.elim λt o=>o.elim λw r=>(c.sep y t w _ r.2.1 r.2.2.1 r.2.2.2).1 (.inl rfl)) c.fr (λη η η=>id) (λη η η=>id) (λq=>absurd q hk) c.ns c.cell,rfl,.refl,λv' u' η hu'=>absurd (L2 hu') hk⟩
theorem FS.frz1(c:FS k p ρ σ)(x:Str):c.Frz x (frzX x ρ):=by
 have no:(∀v,lk x ρ≠some (.own,v))→c.Frz x ρ:=λn=>⟨c,rfl,.refl,λv η q=>absurd q (n v)⟩
 have own:=λv=>c.frz_up (x:=x) (v:=v)
 unfold frzX
 generalize lk x ρ=o at *
 cases o with
 |none=>exact no nofun
 |some sv=>
  obtain⟨s,v⟩:=sv
  cases s
  ·exact no nofun
  ·exact own _ rfl
  ·exact no nofun
theorem FS.frzs(es:List Expr):∀{ρ:A1}(c:FS k p ρ σ),∃c':FS k p (frz es ρ) σ,c'.s=c.s:=by
 induction es with
 |nil=>exactλc=>⟨c,rfl⟩
 |cons e es ih=>
  intro ρ c
  have z:∃c':FS k p (match C2 e with|some x=>frzX x ρ|none=>ρ) σ,c'.s=c.s:=by
   cases C2 e with
   |none=>exact⟨c,rfl⟩
   |some y=>exact(c.frz1 y).imp λc' q=>q.1
  exact z.elim λc1 e1=>(ih c1).imp λη q=>q.trans e1
theorem FS.frzE(c:FS k p ρ σ)(e:Expr):∃c':FS k p (frzE e ρ) σ,c'.s=c.s:=
 Xv.el (P:=λe w=>∃c':FS k p (match w with|.dct _ vs=>frz vs ρ|.tup es=>frz es ρ|.lst es=>frz es ρ|_=>ρ) σ,c'.s=c.s)
  (λη η η=>⟨c,rfl⟩) (λη η=>⟨c,rfl⟩) (λη η η=>⟨c,rfl⟩) (λη η η=>⟨c,rfl⟩) (λes η η=>c.frzs es) (λes η=>c.frzs es) (λη vs η=>c.frzs vs) (λη η η η=>⟨c,rfl⟩) (λη=>⟨c,rfl⟩) e
end
end
section
open PySem PySem.W PySem.Calls PyProof.Rows
set_option backward.match.sparseCases true in
noncomputable def Sx(k:An)(F:Cc)(g:Gh)(h:Heap):Fl→Flow→Prop
 |.nx,f=>f=.next
 |.cont,f=>f=.cont
 |.ret rv,f=>∃u,f=.ret u∧match rv with
  |(v,.cl)=>rel g v u
  |(v,.fr)=>Bh F g h v u∧∀a,u=.ref a→k.W a∨k.n.get? a=none
  |(_,.al _)=>False
section
variable{T:Th}{k:An}{p:Pl T}{ρ ρ':A1}{σ σ':Sg}{x:Str}{s:SK}{v:V}{u:Value}{b:Bool}{α β:Type}
noncomputable def Ci(b:Bool)(c:FS k p ρ σ):Option (Fl×A1×Sg)→((Flow→Shared→Prop)→Prop)→Prop
 |none,_=>True
 |some (fl,ρ',σ'),W=>∀Q:Flow→Shared→Prop,(∀(c':FS k p ρ' σ') f,Sx k T.F c'.g c'.h fl f→(b=true→∀x u,B4 p.env c.h x u→B4 p.env c'.h x u)→Q f c'.s)→W Q
noncomputable abbrev Fp(b:Bool)(c:FS k p ρ σ)(o:Option (Fl×A1×Sg))(t:Sem Flow):Prop:=Ci b c o λQ=>wpAny T.F.M p.A t Q ff c.s
theorem FS.nxh(c:FS k p ρ σ){m:Mo T.F p.b σ'}(st:Nx c.toMo m):B4 p.env c.h x u→B4 p.env m.h x u:=Ic (c.fr.keeps st)
variable{c:FS k p ρ σ}{t t':Sem Flow}{o:Option (Fl×A1×Sg)}{W W':(Flow→Shared→Prop)→Prop}
theorem Ci.of(h:∀fl ρ' σ',o=some (fl,ρ',σ')→Ci b c (some (fl,ρ',σ')) W):Ci b c o W:=match o,h with
 |none,_=>trivial
 |some (_,_,_),h=>h _ _ _ rfl
theorem Ci.vo{δ:Type}{o:Option δ}{f:δ→Option (Fl×A1×Sg)}(h:∀x,o=some x→Ci b c (f x) W):Ci b c (o1 o f) W:=match o,h with
 |none,_=>trivial
 |some x,h=>h x rfl
theorem Ci.vi{d:Bool}(h:d=true→Ci b c o W):Ci b c (iB d o) W:=match d,h with
 |false,_=>trivial
 |true,h=>h rfl
theorem Ci.mv{c':FS k p ρ' σ'}(hk:b=true→∀x u,B4 p.env c.h x u→B4 p.env c'.h x u)(f:∀Q,W Q→W' Q)(h:Ci b c' o W):Ci b c o W':=match o,h with
 |none,_=>trivial
 |some (_,_,_),h=>λQ hQ=>f Q (h Q λc2 fl r z=>hQ c2 fl r λe x u q=>z e x u (hk e x u q))
theorem Ci.rl(f:∀Q,W Q→W' Q)(h:Ci b c o W):Ci b c o W':=.mv (c':=c) (λη η η=>id) f h
theorem Ci.b2{R:Gh→Heap→α→β→Prop}{o:Option (α×Sg)}{f:α→Sg→Option (Fl×A1×Sg)}{t:Sem β}{V:β→Shared→(Flow→Shared→Prop)→Prop}(rule:∀Q,wpAny T.F.M p.A t (λu s=>V u s Q) ff c.s→W Q)(h:Go p.A c.toMo R o t)
  (kk:∀a σ'(m:Mo T.F p.b σ') u(st:Nx c.toMo m),R m.g m.h a u→Ci b (c.nx m st) (f a σ') (V u m.s)):Ci b c (Mine.b2 o f) W:=match o,h with
 |none,_=>trivial
 |some (a,s),h=>.of λfl ρ' σ' e=>λQ hQ=>rule Q (h _ λm u st r=>by
   have z:=kk a s m u st r
   replace e:f a s=_:=e
   rw[e]at z
   exact z Q λc2 fl r zz=>hQ c2 fl r λe x u q=>zz e x u (c.nxh st q))
theorem Ci.b1{R:Gh→Heap→RV→β→Prop}{o:Option (RV×Sg)}{f:V→Kd→Sg→Option (Fl×A1×Sg)}{t:Sem β}{V:β→Shared→(Flow→Shared→Prop)→Prop}(rule:∀Q,wpAny T.F.M p.A t (λu s=>V u s Q) ff c.s→W Q)(h:Go p.A c.toMo R o t)
  (kk:∀v kd σ'(m:Mo T.F p.b σ') u(st:Nx c.toMo m),R m.g m.h (v,kd) u→Ci b (c.nx m st) (f v kd σ') (V u m.s)):Ci b c (Mine.b1 o f) W:=match o,h with
 |none,_=>trivial
 |some ((v,kd),s),h=>Ci.b2 (o:=some ((v,kd),s)) (f:=λr s=>f r.1 r.2 s) rule h λr σ' m u st q=>kk r.1 r.2 σ' m u st q
theorem Fp.b1{R:Gh→Heap→RV→β→Prop}{o:Option (RV×Sg)}{f:V→Kd→Sg→Option (Fl×A1×Sg)}{t:Sem β}{κ:β→Sem Flow}(rule:∀Q,wpAny T.F.M p.A t (λu s=>wpAny T.F.M p.A (κ u) Q ff s) ff c.s→wpAny T.F.M p.A t' Q ff c.s)(h:Go p.A c.toMo R o t)
  (kk:∀v kd σ'(m:Mo T.F p.b σ') u(st:Nx c.toMo m),R m.g m.h (v,kd) u→Fp b (c.nx m st) (f v kd σ') (κ u)):Fp b c (Mine.b1 o f) t':=Ci.b1 (V:=λu s Q=>wpAny T.F.M p.A (κ u) Q ff s) rule h kk
noncomputable abbrev SS(b:Bool)(T:Th)(st:Stmt):Prop:=∀(k:An)(p:Pl T)(ρ:A1)(σ:Sg)(c:FS k p ρ σ),Fp b c (P9 T.I st p.sc ρ σ) (exec st p.env)
noncomputable abbrev Oz(b:Bool)(T:Th)(ss:List Stmt):Prop:=∀(k:An)(p:Pl T)(ρ:A1)(σ:Sg)(c:FS k p ρ σ),Fp b c (Dn T.I ss p.sc ρ σ) (execs ss p.env)
theorem Ci.leaf{fl:Fl}{f:Flow}(r:Sx k T.F c.g c.h fl f)(rule:∀Q:Flow→Shared→Prop,Q f c.s→wpAny T.F.M p.A t Q ff c.s):Fp b c (some (fl,ρ,σ)) t:=λQ hQ=>rule Q (hQ c f r λη η η=>id)
theorem qF{q:Pos}:SS b T (.Pass q):=λη η η η c=>.leaf rfl λη h=>wpAny_Pass h
theorem qH{q:Pos}:SS b T (.Continue q):=λη η η η c=>.leaf rfl λη h=>wpAny_Continue h
theorem w7{e:Expr}{q:Pos}{s1 s2:List Stmt}(h1:Oz b T s1)(h2:Oz b T s2):SS b T (.If e s1 s2 q):=λk p ρ σ c=>
 .b2 (V:=λd s Q=>wpAny T.F.M p.A (if d=true then execs s1 p.env else execs s2 p.env) Q ff s) (λQ z=>wpAny_If (wpAny_mono z (λd s z=>by cases d<;>exact z) λη η z=>z)) ((sx e).tst _ σ c.toCf) λd σ' m u st r=>r▸match d with
  |true=>h1 k p ρ σ' (c.nx m st)
  |false=>h2 k p ρ σ' (c.nx m st)
theorem hY:Oz b T []:=λη η η η c=>.leaf rfl λη h=>wpAny_execs_nil h
theorem Ci.use(h:Ci b c o W){fl:Fl}(e:o=some (fl,ρ',σ'))(Q:Flow→Shared→Prop)(hQ:∀(c':FS k p ρ' σ') f,Sx k T.F c'.g c'.h fl f→(b=true→∀x u,B4 p.env c.h x u→B4 p.env c'.h x u)→Q f c'.s):W Q:=(e▸h:Ci b c (some (fl,ρ',σ')) W) Q hQ
noncomputable abbrev B44(T:Th)(ss:List Stmt)(sc:Scope)(fl:Fl)(r:A1×Sg):Option (Fl×A1×Sg):=match fl with|.nx=>Dn T.I ss sc r.1 r.2|fl=>some (fl,r)
set_option backward.match.sparseCases true in
noncomputable abbrev B43(p:Pl T)(ss:List Stmt)(Q:Flow→Shared→Prop)(f:Flow)(s:Shared):Prop:=match f with|.next=>wpAny T.F.M p.A (execs ss p.env) Q ff s|f=>Q f s
theorem nB{ss:List Stmt}(h2:Oz b T ss)(c:FS k p ρ σ){fl:Fl}{f:Flow}:Sx k T.F c.g c.h fl f→Ci b c (B44 T ss p.sc fl (ρ,σ)) (λQ=>B43 p ss Q f c.s):=by
 cases fl with
 |nx=>exactλr=>r▸h2 k p ρ σ c
 |cont=>exactλr=>r▸λQ hQ=>hQ c _ rfl λη η η=>id
 |ret rv=>exactλr=>r.elim λu q=>q.1▸λQ hQ=>hQ c _ ⟨u,rfl,q.2⟩ λη η η=>id
set_option tactic.hygienic true in
set_option backward.match.sparseCases true in
theorem Zn{st:Stmt}{ss:List Stmt}(h1:SS b T st)(h2:Oz b T ss):Oz b T (st::ss):=λk p ρ σ c=>.of λfl ρ2 σ2 e Q hQ=>by
 obtain⟨fl1,r1,e1,e2⟩:=Av (f:=B44 T ss p.sc) (show Mine.b2 (P9 T.I st p.sc ρ σ) _=_ from e)
 exact wpAny_execs_cons ((h1 k p ρ σ c).use (ρ':=r1.1) (σ':=r1.2) e1 (B43 p ss Q) λc' f r hk=>(nB h2 c' r).use e2 Q λc2 f2 r2 zz=>hQ c2 f2 r2 λe x u q=>zz e x u (hk e x u q))
end
end
section
open PySem PySem.W PySem.Calls PyProof.Rows
section
variable{T:Th}{k:An}{p:Pl T}{ρ ρ':A1}{σ σ':Sg}{x:Str}{s:SK}{v:V}{u:Value}{b:Bool}
theorem M7{rs:List RV}{g:List PyData→RV}{y:Str}(hg:∀xs,(g xs).2≠.al y){n:Bool}{s s':Sg}{v:V}(e:o1 (iB n (o1 (Ek rs) λxs=>some (g xs))) (λr=>some (r,s))=some ((v,.al y),s')):False:=by
 obtain⟨r,e1,e2⟩:=A4 e
 cases e2
 obtain⟨_,e1⟩:=B7 e1
 obtain⟨xs,_,e1⟩:=A4 e1
 cases hq:g xs
 have:=hg xs
 rw[Cd e1]at this
 exact this rfl
noncomputable def f8(T:Th)(e:Expr):Prop:=∀sc ρ s v y s',(ev T.I e).val sc ρ s=some ((v,.al y),s')→False
noncomputable def C08(w:Xv)(ρ:A1):A1:=match w with|.dct _ vs=>frz vs ρ|.tup es=>frz es ρ|.lst es=>frz es ρ|_=>ρ
theorem B02{es:List Expr}{n:Nat}{q:Pos}:f8 T (.Tuple es n q):=λsc ρ s v y s' h=>by
 obtain⟨rs,s1,_,h⟩:=Av (show Mine.b2 _ _=_ from h)
 exact M7 (g:=λxs=>(.d (.tuple xs),.cl)) (λη=>(λh=>nomatch h)) h
theorem B03{es:List Expr}{q:Pos}:f8 T (.List es q):=λsc ρ s v y s' h=>by
 obtain⟨rs,s1,_,h⟩:=Av (show Mine.b2 _ _=_ from h)
 exact M7 (g:=λxs=>(.d (.list xs),.fr)) (λη=>(λh=>nomatch h)) h
theorem B04{ks:List (Option Expr)}{vs:List Expr}{q:Pos}:f8 T (.Dict ks vs q):=λsc ρ s v y s' h=>by
 obtain⟨rs,s1,_,h⟩:=Av (show Mine.b2 _ _=_ from h)
 obtain⟨_,_,h⟩:=A4 h
 exact nomatch h
theorem uD(e:Expr):(∀ρ,C08 (xw e) ρ=ρ)∨f8 T e:=
 Xv.el (P:=λe w=>(∀ρ:A1,C08 w ρ=ρ)∨f8 T e)
  (λη η η=>.inl λη=>rfl) (λη η=>.inl λη=>rfl) (λη η η=>.inl λη=>rfl) (λη η η=>.inl λη=>rfl)
  (λη η η=>.inr B02) (λη η=>.inr B03) (λη η η=>.inr B04) (λη η η η=>.inl λη=>rfl) (λη=>.inl λη=>rfl) e
theorem cV{h h':Shared}(e:h'=h){env:Env}:B4 env h.heap x u→B4 env h'.heap x u:=λq=>e▸q
theorem G6{y:Str}{ρ:A1}{v:V}(h:Nh y ρ=some v):lk y ρ=some (.own,v):=by
 obtain⟨sv,e,q⟩:=A4 h
 obtain⟨s,w⟩:=sv
 cases s<;>first|exact Ao q|exact e.trans (congrArg (λw=>some (SK.own,w)) (Cd q))
theorem Go.eqn{α β:Type}{F:Cc}{bb:Shared}{A:Around}{m:Mo F bb σ}{R:Gh→Heap→α→β→Prop}{o:Option (α×Sg)}{t:Sem β}(h:Go A m R o t):Go A m (λg h a u=>R g h a u∧∃s,o=some (a,s)) o t:=match o,h with
 |none,_=>trivial
 |some (_,s),h=>λQ hQ=>h Q λm' u st r=>hQ m' u st ⟨r,s,rfl⟩
theorem A37{e:Expr}{q:Pos}{ρ1:A1}(c:FS k p ρ1 σ)(hz:ρ1=ρ∨f8 T e):Fp b c (Mine.b1 ((ev T.I e).val p.sc ρ1 σ) λv kd s=>match kd with
  |.al x=>o1 (Nh x ρ) λη=>some (.ret (v,.fr),ρ,s)
  |kd=>some (.ret (v,kd),ρ1,s)) (exec (.Return (some e) q) p.env):=
 Fp.b1 (κ:=λu=>pure (.ret u)) (λQ z=>by rw[exec_Return_some];exact wpAny_bind (wpAny_standAt (wpAny_bind z))) (Go.eqn ((sx e).val _ σ c.toCf)) λv kd σ' m u st r=>by
  cases kd with
  |cl=>exact .leaf ⟨u,rfl,r.1⟩ λη h=>wpAny_pure h
  |fr=>exact .leaf ⟨u,rfl,r.1.1,λa ea=>.inr (c.st.alive.fresh (r.1.2 a ea))⟩ λη h=>wpAny_pure h
  |al y=>exact hz.elim (λhz=>by subst hz;exact .vo λw h2=>.leaf ⟨u,rfl,r.1.2,λa ea=>(c.nx m st).new a (.inr ⟨y,_,G6 h2,ea▸r.1.1.elim λs q=>q.2.2⟩)⟩ λη h=>wpAny_pure h) λhz=>r.2.elim λη q=>(hz _ _ _ _ _ _ q).elim
theorem yS{e:Option Expr}{q:Pos}:SS b T (.Return e q):=λk p ρ σ c=>match e with
 |none=>.leaf ⟨_,rfl,rfl⟩ λη h=>wpAny_Return_none h
 |some e=>(c.frzE e).elim λc1 e1=>.mv (c':=c1) (λη η η=>cV e1) (λQ z=>e1▸z) (A37 c1 ((uD e).imp (λf=>f ρ) id))
end
end
section
open PySem PySem.W PySem.Calls PyProof.Rows
section
variable{T:Th}{k:An}{p:Pl T}{ρ ρ':A1}{σ σ':Sg}{x:Str}{s:SK}{v:V}{kd:Kd}{u:Value}{px pp:Pos}{e:Expr}
theorem E3{env:Env}{sc:Scope}(hE:Ma env sc){x:Str}(h:Et sc x=true):Wg env x:=by
 replace h:(match lk x sc.names with|some .local=>true|some .cell=>true|_=>false)=true:=h
 cases e:lk x sc.names with
 |none=>rw[e]at h;exact Bool.noConfusion h
 |some k=>rw[e]at h;cases k<;>first|exact .inl (hE.names x _ e)|exact .inr (hE.names x _ e)|exact Bool.noConfusion h
theorem xW.of{c:FS k p ρ σ}{m:Mo T.F p.b σ'}(st:Nx c.toMo m)(r:Lh (p.ex ρ) c.h m.g m.h (v,kd) u)(h:asg kd=some s):xW c m s v u:=by
 cases kd with
 |cl=>cases h;exact⟨st,(λh=>nomatch h),r,λn=>absurd rfl n⟩
 |fr=>cases h;exact⟨st,(λh=>nomatch h),r.1,λη=>r.2⟩
 |al y=>exact Ao h
noncomputable abbrev zD(env:Env)(x:Str)(u:Value):Sem Flow:=storeName env x u >>=λη=>pure .next
theorem A38(c:FS k p ρ σ){m:Mo T.F p.b σ'}(st:Nx c.toMo m)(hk:Wg p.env x)(r:Lh (p.ex ρ) c.h m.g m.h (v,kd) u):Fp false (c.nx m st) (o1 (asg kd) λsk=>some (.nx,up x (sk,v) ρ,σ')) (zD p.env x u):=
 .vo λsk hs Q hQ=>wpAny_bind (c.store (.of st r hs) hk λc' η η η=>wpAny_pure (hQ c' _ rfl λh=>Bool.noConfusion h))
theorem Vu{c:FS k p ρ σ}(hs:swapsWith e (some (.Name x px)) pp.line p.env=pure false)(Q:Flow→Shared→Prop)(z:wpAny T.F.M p.A (eval e p.env) (λu s=>wpAny T.F.M p.A (zD p.env x u) Q ff s) ff c.s):wpAny T.F.M p.A (exec (.Assign [.Name x px] e pp) p.env) Q ff c.s:=wpAny_Assign_Name (wpAny_mono z (λη η z=>nR z) λη η z=>z) hs
theorem A53(c:FS k p ρ σ)(hk:Wg p.env x)(hs:swapsWith e (some (.Name x px)) pp.line p.env=pure false):Fp false c (Mine.b1 ((ev T.I e).val p.sc ρ σ) λv kd s=>o1 (asg kd) λsk=>some (.nx,up x (sk,v) ρ,s)) (exec (.Assign [.Name x px] e pp) p.env):=
 Fp.b1 (Vu hs) ((sx e).val _ σ c.toCf) λv kd σ' m u st r=>A38 c st hk r
theorem sec:∀gs:List Comprehension,SEc T gs
 |[]=>λη h=>Ao h
 |⟨_,it,ifs,_⟩::_=>gM (sx it) (sxs ifs)
inductive CP(T:Th)(elt:Expr)(gs:List Comprehension)(cs sc:Scope)(ρ:A1)(σ:Sg):RV→Sg→Prop
 |mk {y:Str} {py:Pos} {it:Expr} {ifs:List Expr} {it':Ev Sg} {ifs':List (Ev Sg)} {xs ys:List PyData} {σ1 σ':Sg} (hgs:gs=[⟨.Name y py,it,ifs,0⟩]) (hi:Z2 T it it') (hl:SEs T ifs ifs') (hc:Kn sc cs y=true) (hn:Eh ρ=true) (e1:it'.itr sc ρ σ=some (xs,σ1))
  (hf:Hz (turn (ev T.I elt) ifs' cs y ρ) xs σ1=some (ys,σ')):CP T elt gs cs sc ρ σ (.d (.list ys),.fr) σ'
theorem Ye{elt:Expr}{gs:List Comprehension}{cs sc:Scope}{q:Pos}{rv:RV}(h:(ev T.I (.ListComp elt gs cs q)).val sc ρ σ=some (rv,σ')):CP T elt gs cs sc ρ σ rv σ':=by
 refine Ac λXz hXz=>?_
 obtain⟨g,hg,e⟩:=A4 (show o1 (Ry T.I gs) _=_ from h)
 obtain⟨hb,e⟩:=B7 e
 obtain⟨xs,s2,e1,e⟩:=Av e
 obtain⟨ys,s3,hf,e⟩:=Av e
 refine hXz ?_
 cases e
 refine Ac λXz hXz=>?_
 obtain⟨py,it,ifs,eg,hi,hl⟩:=sec gs g hg
 refine hXz ?_
 have hb:=Ab hb
 exact .mk eg hi (hl.imp λη η q=>q.1) hb.1 hb.2 e1 hf
theorem vG{c:FS k p ρ σ}{D C:Addr}{m:Mo T.F p.b σ'}(hk:Wg p.env x)(st:Nx c.toMo m)(nD:c.h.get? D=none)(nC:c.h.get? C=none)(n:D≠C){v:V}(O:Bh T.F m.g m.h v (.ref D))(pr:Hi T.F m.g m.h C)(ns:∃mm,m.h.Ns C mm){Q:Flow→Shared→Prop}(hQ:∀c':FS k p (up x (.own,v) ρ) σ',Q .next c'.s):
  compPost T.F.M p.A ff (some (assign (.Name x px) p.env)) (λη s'=>Q .next s') (.ref D) C (.ok .next) m.s:=
 have nf:¬Wb p.env ρ c.h C:=c.fresh nC
 wpAny_assign_Name (c.store (Q:=λη s''=>∃m,s''.heap.Ns C m∧∀h',Heap.SameBut C s''.heap h'→Q .next {s'' with heap:=h'}) (show xW c m .own v (.ref D)from⟨st,(λh=>nomatch h),O,λη a ea=>Value.ref.inj ea▸nD⟩) hk λc' sm eg rc=>
  have nr:¬Wb p.env (up x (.own,v) ρ) c'.h C:=λq=>(rc C q).elim nf λe=>n (Value.ref.inj e)
  have eC:c'.h.get? C=m.h.get? C:=sm C λq=>nf (.inl q)
  have pC:Hi T.F c'.g c'.h C:=⟨eC▸pr.here,eg▸pr.G,eg▸pr.im,pr.base⟩
  ns.imp λmm hm=>⟨Cj (λo e=>eC.trans e) hm,λh' hs'=>hQ (c'.gone pC (c.st.alive.fresh nC) nr h' c'.t (C0 hs'))⟩)
theorem A54{elt:Expr}{gs:List Comprehension}{cs:Scope}{q:Pos}(c:FS k p ρ σ)(hk:Wg p.env x)(hs:swapsWith (.ListComp elt gs cs q) (some (.Name x px)) pp.line p.env=pure true):
  Fp false c (Mine.b1 ((ev T.I (.ListComp elt gs cs q)).val p.sc ρ σ) λv kd s=>o1 (asg kd) λsk=>some (.nx,up x (sk,v) ρ,s)) (exec (.Assign [.Name x px] (.ListComp elt gs cs q) pp) p.env):=by
 cases e:(ev T.I (.ListComp elt gs cs q)).val p.sc ρ σ with
 |none=>exact trivial
 |some r=>
  obtain⟨rv,s1⟩:=r
  obtain @⟨y,py,it,ifs,it',ifs',xs,ys,σ1,_,rfl,hi,hl,hc,hn,e1,hf⟩:=Ye e
  have hI:=hi.itr _ σ c.toCf
  replace e1:it'.itr (p.ex ρ).sc (p.ex ρ).ρ σ=_:=e1
  rw[e1]at hI
  intro Q hQ
  exact(exec_Assign_Name_used _ _ _ _ hs)▸wpAny_bind (wpAny_standAt (wpAny_bind (wpAny_bind (wpAny_mono (Vf (c0:=c.toCf) (use:=some (assign (.Name x px) p.env)) (Q:=λη s'=>Q .next s') (Q6 hc) hn (hi.fld.elim (λf=>f _) λf=>Ao ((f _ _ _).1.symm.trans e1)) hl (sx elt).toSEv hI hf λD C m st nD nC n O pr ns=>vG hk st nD nC n O pr ns λc'=>hQ c' _ rfl λh=>absurd h Bool.false_ne_true) (λη η z=>wpAny_pure (wpAny_pure z)) λη η z=>z))))
set_option tactic.hygienic true in
set_option backward.match.sparseCases true in
theorem T6(e:Expr)(t:Option Expr)(n:Nat)(env:Env):swapsWith e t n env=pure false∨∃elt gs cs q,swapsWith e t n env=swapsWith (.ListComp elt gs cs q) t n env∧(e=.ListComp elt gs cs q∨out e=true):=by
 cases e
 case ListComp elt gs cs q=>exact .inr ⟨elt,gs,cs,q,rfl,.inl rfl⟩
 case SetComp elt gs cs q=>exact .inr ⟨elt,gs,cs,q,rfl,.inr rfl⟩
 case DictComp k v gs cs q=>exact .inr ⟨k,gs,cs,q,rfl,.inr rfl⟩
 all_goals exact .inl rfl
theorem N6{e t:Expr}{n:Nat}{env:Env}(h:∀elt gs cs q,swapsWith (.ListComp elt gs cs q) (some t) n env=pure false):swapsWith e (some t) n env=pure false:=(T6 e (some t) n env).elim id λz=>z.elim λelt z=>z.elim λgs z=>z.elim λcs z=>z.elim λq z=>z.1.trans (h elt gs cs q)
theorem swp(e:Expr)(x:Str)(px:Pos)(n:Nat)(env:Env):swapsWith e (some (.Name x px)) n env=pure false∨(∃elt gs cs q,e=.ListComp elt gs cs q)∧swapsWith e (some (.Name x px)) n env=pure true∨out e=true:=
 have key:∀b:Bool,(pure b:Sem Bool)=pure false∨(pure b:Sem Bool)=pure true:=λb=>match b with|true=>.inr rfl|false=>.inl rfl
 (T6 e _ n env).elim .inl λz=>z.elim λelt z=>z.elim λgs z=>z.elim λcs z=>z.elim λq z=>z.2.elim (λh=>(key _:swapsWith (.ListComp elt gs cs q) (some (.Name x px)) n env=pure false∨swapsWith (.ListComp elt gs cs q) (some (.Name x px)) n env=pure true).imp z.1.trans λk=>.inl ⟨⟨_,_,_,_,h⟩,z.1.trans k⟩) λh=>.inr (.inr h)
theorem tV(c:FS k p ρ σ)(hk:Wg p.env x):Fp false c (Mine.b1 ((ev T.I e).val p.sc ρ σ) λv kd s=>o1 (asg kd) λsk=>some (.nx,up x (sk,v) ρ,s)) (exec (.Assign [.Name x px] e pp) p.env):=
 (swp e x px pp.line p.env).elim (A53 c hk) λh=>h.elim (λh=>h.1.elim λelt q=>q.elim λgs q=>q.elim λcs q=>q.elim λq e=>by subst e;exact A54 c hk h.2) λh=>by rw[Rx h];trivial
theorem tU(c:FS k p ρ σ)(hk:Wg p.env x):Fp false c (Pb T.I x e p.sc ρ σ) (exec (.Assign [.Name x px] e pp) p.env):=(c.frzE e).elim λc1 e1=>.mv (c':=c1) (λh=>Bool.noConfusion h) (λQ z=>e1▸z) (tV c1 hk)
end
end
section
open PySem PySem.W PySem.Calls PyProof.Rows
theorem Tl(name:Str)(hash:Int)(key v:Value)(o:Obj):(Obj.putName name hash key v o).cls=o.cls:=by
 obtain⟨c,d,dt,sl⟩:=o
 rw[Obj.putName_eq]
 unfold Obj.putNameByArray
 cases dt with
 |dict es ep=>dsimp only;split<;>rfl
 |_=>rfl
theorem Qw{name:Str}{hash:Int}{key v:Value}{o:Obj}{es:Array DictEntry}{ep:Nat}(hd:o.data=.dict es ep):∃es' ep',(Obj.putName name hash key v o).data=.dict es' ep'∧es'.size≤es.size+1∧∀u,nsFind es name=some u→es'.size=es.size:=by
 obtain⟨c,d,dt,sl⟩:=o
 subst hd
 rw[Obj.putName_eq]
 unfold Obj.putNameByArray
 dsimp only
 split
 ·exact⟨_,_,rfl,by simp,λη η=>by simp⟩
 ·rename_i hn
  refine⟨_,_,rfl,by simp,λu hu=>?_⟩
  unfold nsFind at hu
  rw[findBy_of_findIdx?]at hu
  rw[hn]at hu
  cases hu
theorem yB{h:Heap}{a:Addr}{o o2:Obj}{f:Obj→Obj}(e:h.get? a=some o)(e2:(h.update a f).get? a=some o2):o2=f o:=by
 obtain⟨e1,_⟩:=Heap.get?_some_iff.mp e
 obtain⟨e3,_⟩:=Heap.get?_some_iff.mp e2
 cases h
 simp only[Heap.update,Array.getElem?_modify,if_true]at e3 e1
 rw[e1]at e3
 simpa using e3.symm
section
variable{M:Model}{A:Around}{E:Value→Shared→Prop}{s:Shared}
theorem d9{a:Addr}{o:Obj}{m:Str→Option Value}{name:Str}{v:Value}{Q:Unit→Shared→Prop}(hn:s.heap.Ns a m)(ho:s.heap.get? a=some o)
  {oes:Array DictEntry} {oep:Nat} (hod:o.data=.dict oes oep)
  (h:∀h' o' es' ep',h'.Ns a (λx=>if x=name then some v else m x)→Heap.SameBut a s.heap h'→h'.get? a=some o'→o'.cls=o.cls→o'.data=.dict es' ep'→es'.size≤oes.size+1→(∀u,m name=some u→es'.size=oes.size)→Q () {s with heap:=h',toks:=s.toks+1}):
  wpAny M A (nsSet a name v) Q E s:=λΓ p η=>by
 have key:=Sem.wp_nsSet M Γ (λx η s'=>E x s') p s hn name v (λη η s'=>s'.heap.Ns a (λx=>if x=name then some v else m x)∧Heap.SameBut a s.heap s'.heap) (λh' h1 h2=>⟨h1,h2⟩)
 refine Ac λXz hXz=>?_
 obtain⟨o',es,ep,ho',hd,hk,hm⟩:=id hn
 refine hXz ?_
 rw[ho]at ho';cases ho'
 have hany:es.any (·.refKey)=false:=by
  rw[Array.any_eq_false']
  intro e he
  obtain⟨n,t,q⟩:=hk e he
  simp[DictEntry.refKey,q]
 simp only[nsSet,strHash,Sem.wp_bind',Sem.wp_cmd_ask,Sem.wp_pure',Sem.wp_cmd_mkText]at key⊢
 rw[Sem.wp_loadPart_of M Γ (λx η s'=>E x s') p {s with toks:=s.toks+1} (o:=o) _ ho]at key⊢
 simp only[hd,aRefKeyMayBeTheName_at,hany,Bool.and_false,Bool.false_eq_true,if_false,Sem.wp_cmd_updatePart]at key⊢
 obtain⟨k1,k2,k3⟩:=key
 obtain⟨o2,es2,ep2,ho2,_⟩:=id k2
 rw[hd]at hod
 cases hod
 refine Ac λXz hXz=>?_
 obtain⟨es',ep',z1,z2,z3⟩:=Qw (name:=name) (hash:=if name.cps.isEmpty=true then 0 else reduceHash (M.w.params.strHash name.cps)) (key:=.str name s.toks) (v:=v) hd
 refine hXz ?_
 have e2:=yB ho ho2
 refine⟨k1,h _ o2 es' ep' k2 k3 ho2 (by simp only[e2,Tl]) ?_ z2 λu hu=>z3 u ((hm name).trans hu)⟩
 rw[e2];exact z1
end
theorem fT{α:Type}(a:Str)(v:α):∀l:List (Str×α),l.length≤(up a v l).length
 |[]=>Nat.zero_le _
 |(b,u)::r=>by
  show _≤(match sq a b with|true=>(b,v)::r|false=>(b,u)::up a v r).length
  cases sq a b
  ·exact Nat.succ_le_succ (fT a v r)
  ·exact Nat.le_refl _
theorem Zg{α:Type}{a:Str}{v:α}:∀{l:List (Str×α)},lk a l=none→(up a v l).length=l.length+1
 |[],_=>rfl
 |(b,u)::r,h=>by
  replace h:(match sq a b with|true=>some u|false=>lk a r)=none:=h
  show(match sq a b with|true=>(b,v)::r|false=>(b,u)::up a v r).length=_
  cases e:sq a b<;>rw[e]at h
  ·exact congrArg (· +1) (Zg h)
  ·exact nomatch h
section
variable{F:Cc}{b:Shared}{σ σ':Sg}{A:Around}{g:Gh}{h h':Heap}
structure fG(F:Cc)(g:Gh)(σ:Sg)(h h':Heap)(k:Nat)(mo:MO):Prop where
 lt:k<g.n
 kp:∀b o,b≠g.p k→b≠g.q k→h.get? b=some o→h'.get? b=some o
 al:vV h h'
 at':P6 F g h' (g.p k) (g.q k) mo
theorem fG.keep{k:Nat}{mo:MO}(T:fG F g σ h h' k mo)(b:Addr)(o:Obj)(n:¬Z6 g b):h.get? b=some o→h'.get? b=some o:=T.kp b o (λq=>n ⟨k,T.lt,.inl q⟩) λq=>n ⟨k,T.lt,.inr q⟩
theorem rU(hI:Hb F g σ h){k:Nat}{mo:MO}(T:fG F g σ h h' k mo):Hb F g (σ.set k mo) h':=
 {hI with
  size:=hI.size.trans List.length_set.symm
  gam:=λa x e=>(hI.gam a x e).imp λo q=>⟨T.keep a o (λm=>dA (hI.own a m).1 e rfl) q.1,q.2⟩
  obj:=λj mj e=>(Nat.decEq j k).byCases (λq=>by
     subst q
     rw[List.getElem?_set_self (hI.size▸T.lt)]at e
     exact Cd e▸T.at') λq=>by
   rw[List.getElem?_set_ne (Ne.symm q)]at e
   have ap:=hI.apart j k (R2 hI e) T.lt q
   exact Jw .refl (λo=>T.kp _ o ap.1 ap.2.1) (λo=>T.kp _ o ap.2.2.1 ap.2.2.2) (hI.obj j mj e)
  own:=λb hb=>⟨(hI.own b hb).1,(hI.own b hb).2.1,(hI.own b hb).2.2.elim (T.al b)⟩
  base:=λb o e=>T.keep b o (λm=>Fc (hI.own b m).2.1 e) (hI.base b o e)}
noncomputable abbrev Mo.mtn(m:Mo F b σ){h':Heap}{k:Nat}{mo:MO}(T:fG F m.g σ m.h h' k mo)(t:Nat):Mo F b (σ.set k mo):=⟨h',t,m.g,rU m.inv T⟩
theorem fG.stp{k:Nat}{mo:MO}(T:fG F g σ h h' k mo):De No g h g h':=.same (λb o e n η=>T.keep b o n e) T.al
theorem cR(hF:Am F)(m:Mo F b σ){k c:Nat}{a:Str}{fl:List (Str×V)}{v:V}{u:Value}(hk:σ[k]?=some (.inst c fl))(hc:bM c a fl=true)(hr:rel m.g v u){Q:Unit→Shared→Prop}
  (hQ:∀m':Mo F b (σ.set k (.inst c (up a v fl))),Nx m m'→Q () m'.s):wpAny F.M A (setAttr (.ref (m.g.p k)) a u) Q ff m.s:=by
 have hc:=Ab hc
 have hc1:=Ab hc.1
 have hlen:fl.length<100:=Nat.le_of_ble_eq_true hc.2
 have C:=hF.cls c (A94 hc1.1)
 have hm:=m.inv.obj k _ hk
 refine Ac λXz hXz=>?_
 obtain⟨od,mm,I,hod,hn,hx⟩:=Rg hm
 obtain⟨hpq,_,mm',hn',⟨od',oes,oep,hod',hcl,hdat,hsz⟩,hx'⟩:=hm
 refine hXz ?_
 cases hod.symm.trans hod'
 have X:=J4 hF m.inv
 refine set_plain (s:=m.s) X I C.sa ?_
 refine osa_open (s:={m.s with toks:=m.t+1}) (r:=none) X I C.over (by unfold takerIn;rw[C.attr a hc1.2];rfl) λb=>?_
 refine Ac λXz hXz=>?_
 obtain⟨cd,hcd,hd⟩:=any_some C.dict
 obtain⟨hx1,hx2,hx3,hx4⟩:=I
 refine hXz ?_
 refine wpAny_bind (wpAny_pure (wpAny_bind (wpAny_bind (wpAny_loadPart (s:={m.s with toks:=m.t+1}) hx1 (wpAny_bind (Looks.here (s:={m.s with toks:=m.t+1}) (looks_clsIn X hcd) ?_))))))
 rw[hd]
 refine wpAny_pure (a:=some (m.g.q k)) (wpAny_bind (wpAny_pure (wpAny_bind ?_)))
 refine d9 (s:={m.s with toks:=m.t+1}) hn' hod hdat λh' o' es' ep' hn2 hs' ho' hcl' hd' hz1 hz2=>?_
 refine wpAny_bind (wpAny_lookBehind ho' (by rw[hd'];exact pastItsLine_dict (Ag hz1 (Ag (Nat.succ_le_succ (Ag hsz (Nat.le_of_lt hlen))) (by rw[sizeLine_eq];decide)))) (wpAny_pure ?_))
 have Tm:fG F m.g σ m.h h' k (.inst c (up a v fl)):=⟨R2 m.inv hk,λb o η n e=>(hs'.2 b n).trans e,λb o e=>(Classical.em (b=m.g.q k)).elim (λq=>q▸⟨o',ho'⟩) λq=>⟨o,(hs'.2 b q).trans e⟩,hpq,(hs'.2 _ hpq).trans hx1,_,hn2,⟨o',es',ep',ho',hcl'.trans hcl,hd',?_⟩,λx=>?_⟩
 ·exact hQ (m.mtn Tm _) Tm.stp
 ·have:=hx' a
  cases e:lk a fl with
  |some w=>rw[e]at this;exact this.elim λu' q=>hz2 u' q.1▸Ag hsz (fT a v fl)
  |none=>exact Zg e▸Ag hz1 (Nat.succ_le_succ hsz)
 ·rw[Fi]
  by_cases q:x=a
  ·rw[if_pos q];exact⟨u,if_pos q,hr⟩
  ·rw[if_neg q]
   have:=hx' x
   revert this
   cases lk x fl with
   |none=>exactλh=>(if_neg q).trans h
   |some w=>exactλh=>h.imp λu' z=>⟨(if_neg q).trans z.1,z.2⟩
end
end
section
open PySem PySem.W PySem.Calls PyProof.Rows
section
variable{T:Th}{k:An}{p:Pl T}{ρ ρ':A1}{σ σ':Sg}{x:Str}{v:V}{kd:Kd}{u:Value}{b:Bool}{q pp:Pos}{e o:Expr}{a:Str}{W:(Flow→Shared→Prop)→Prop}
theorem Wt(e o:Expr)(a:Str)(q:Pos)(n:Nat)(env:Env):swapsWith e (some (.Attribute o a q)) n env=pure false:=N6 λη η η η=>rfl
theorem cO(e o i:Expr)(q:Pos)(n:Nat)(env:Env):swapsWith e (some (.Subscript o i q)) n env=pure false:=N6 λη η η η=>rfl
theorem Ph(e:Expr)(es:List Expr)(k:Nat)(q:Pos)(n:Nat)(env:Env):swapsWith e (some (.Tuple es k q)) n env=pure false:=N6 λη η η η=>rfl
theorem Ci.fin{c:FS k p ρ σ}(h:∀Q:Flow→Shared→Prop,(∀m':Mo T.F p.b σ',Nx c.toMo m'→Q .next m'.s)→W Q):Ci b c (some (.nx,ρ,σ')) W:=λQ hQ=>h Q λm' st=>hQ (c.nx m' st) _ rfl λη η η=>c.nxh st
theorem Ci.frzL{c:FS k p ρ σ}{m:Mo T.F p.b σ'}(st:Nx c.toMo m){r:RV}(hr:Lh (p.ex ρ) c.h m.g m.h r u){f:Option (Fl×A1×Sg)}{V:Shared→(Flow→Shared→Prop)→Prop}(h:∀(m2:Mo T.F p.b σ')(st2:Nx c.toMo m2),G9 (p.ex ρ) m2.g m2.h r u→Ci b (c.nx m2 st2) f (V m2.s)):Ci b (c.nx m st) f (V m.s):=
 (Cf.frz (c:=c.toCf) m st hr).elim λm2 z=>.mv (c':=c.nx m2 z.2.1) (W:=V m2.s) (λη x w q=>c.nxh z.2.1 (c.nxb st q)) (λη q=>z.1▸q) (h m2 z.2.1 z.2.2)
theorem Ci.frz{c:FS k p ρ σ}{m:Mo T.F p.b σ'}(st:Nx c.toMo m)(r:Lh (p.ex ρ) c.h m.g m.h (v,kd) u){f:Option (Fl×A1×Sg)}{y:V}(hc:clean (v,kd)=some y){V:Shared→(Flow→Shared→Prop)→Prop}(h:∀(m2:Mo T.F p.b σ')(st2:Nx c.toMo m2),rel m2.g y u→Ci b (c.nx m2 st2) f (V m2.s)):Ci b (c.nx m st) f (V m.s):=
 .frzL st r λm2 st2 l=>h m2 st2 (l.clean hc)
theorem cT{ρ:A1}{σ:Sg}{fl:Fl}{y:V}(h:Wz T.I v a y ρ σ=some (fl,ρ',σ')):∃n c fs,v=.o n∧σ[n]?=some (.inst c fs)∧bM c a fs=true∧some (Fl.nx,ρ,σ.set n (.inst c (up a y fs)))=some (fl,ρ',σ'):=by
 cases v with
 |d=>exact Ao h
 |o n=>
  replace h:(match σ[n]? with|some (.inst c fs)=>iB (bM c a fs) (some (Fl.nx,ρ,σ.set n (.inst c (up a y fs))))|_=>none)=_:=h
  cases e:σ[n]? with
  |none=>rw[e]at h;exact Ao h
  |some mo=>
   rw[e]at h
   cases mo<;>first|exact Ao h|exact⟨n,_,_,rfl,e,B7 h⟩
noncomputable abbrev B41(A:Around)(F:Cc)(a:Str)(u:Value)(u2:Value)(s:Shared)(Q:Flow→Shared→Prop):Prop:=wpAny F.M A (setAttr u2 a u) (λη s=>Q .next s) ff s
theorem tG{c:FS k p ρ σ}{y:V}{u2:Value}(r:rel c.g y u)(r2:Vw T.F c.g c.h v u2):Ci b c (Wz T.I v a y ρ σ) (B41 p.A T.F a u u2 c.s):=.of λfl ρ' σ' h=>by
 refine Ac λXz hXz=>?_
 obtain⟨n,cl,fs,rfl,hn,hf,h⟩:=cT h
 refine hXz ?_
 simp only[← h,r2.o.2]
 exact .fin λQ hQ=>cR T.ok c.toMo hn hf r hQ
noncomputable abbrev nZ(A:Around)(F:Cc)(env:Env)(o:Expr)(a:Str)(u:Value)(s:Shared)(Q:Flow→Shared→Prop):Prop:=wpAny F.M A (eval o env) (λu2 s=>B41 A F a u u2 s Q) ff s
theorem Qc{c:FS k p ρ σ}(Q:Flow→Shared→Prop)(z:wpAny T.F.M p.A (eval e p.env) (λu s=>nZ p.A T.F p.env o a u s Q) ff c.s):wpAny T.F.M p.A (exec (.Assign [.Attribute o a q] e pp) p.env) Q ff c.s:=plainObj_wpAny_Assign_Attribute z (Wt ..)
theorem V3{c:FS k p ρ σ}{y:V}(r:rel c.g y u):Ci b c (Mine.b1 ((ev T.I o).val p.sc ρ σ) λv η s=>Wz T.I v a y ρ s) (nZ p.A T.F p.env o a u c.s):=
 .b1 (λη z=>z) ((sx o).val _ σ c.toCf) λv kd σ' m u2 st r2=>tG (Bk st r) r2.vw
theorem tQ(c:FS k p ρ σ):Fp b c (vD T.I o a e p.sc ρ σ) (exec (.Assign [.Attribute o a q] e pp) p.env):=
 Ci.b1 Qc ((sx e).val _ σ c.toCf) λv kd σ' m u st r=>.vo λy hy=>.frz st r hy λm2 st2 r2=>V3 (c:=c.nx m2 st2) r2
theorem aH{v:V}{kd:Kd}{mo:MO}(h:rW v kd=some mo):kd=.fr∧((∃xs,v=.d (.list xs)∧mo=.lst (xs.map V.d))∨v=.d (.dict [])∧mo=.dct []):=by
 cases kd with
 |cl=>exact Ao h
 |al=>exact Ao h
 |fr=>
  refine⟨rfl,?_⟩
  cases v with
  |o=>exact Ao h
  |d y=>
   cases y with
   |list xs=>exact .inl ⟨xs,rfl,(Cd h).symm⟩
   |dict kvs=>cases kvs with
    |nil=>exact .inr ⟨rfl,(Cd h).symm⟩
    |cons _ _=>exact Ao h
   |_=>exact Ao h
theorem B67{F:Cc}{g:Gh}{h:Heap}{D:Addr}{ob:Obj}{y:PyData}{kd:Kd}{mo:MO}(hm:rW (.d y) kd=some mo)(ho:h.get? D=some ob)(hs:El F g ob y){g':Gh}(t:Gm g g'):P6 F g' h D D mo:=by
 rcases(aH hm).2 with⟨xs,e,rfl⟩|⟨e,rfl⟩<;>cases e
 ·refine Ac λXz hXz=>?_
  obtain⟨hl,vs,n,rfl,al⟩:=hs
  refine hXz ?_
  exact⟨Ag (Nat.le_of_eq (List.length_map ..)) hl,vs,n,ho,A6.map_l (al.imp λη η=>Iy t)⟩
 ·refine Ac λXz hXz=>?_
  obtain⟨hl,es,⟨es',ep,hx,hd,_,hp,_⟩,al⟩:=hs
  refine hXz ?_
  cases al
  cases hp':es'.toList with
  |cons _ _=>rw[hp']at hp;exact nomatch hp
  |nil=>exact⟨Nat.zero_le _,[],⟨ob,ep,ho,hx,hd.trans (congrArg (λz=>Data.dict z ep) (Array.toList_inj.mp hp'))⟩,List.nodup_nil,(λη h=>absurd h List.not_mem_nil),.nil⟩
theorem Mo.share{F:Cc}{bb:Shared}{m0:Mo F bb σ}{m:Mo F bb σ'}(st:Nx m0 m)(r:Wh F m0.h m.g m.h v u){mo:MO}(hm:rW v kd=some mo):∃m2:Mo F bb (σ'++[mo]),m2.s=m.s∧Nx m0 m2∧rel m2.g (.o σ'.length) u:=by
 cases v with
 |o=>exact r.1.elim
 |d y=>
  refine Ac λXz hXz=>?_
  obtain⟨⟨D,ob,rfl,ho,hs,pD⟩,hD⟩:=r
  refine hXz ?_
  have hn:m.g.n=σ'.length:=m.inv.size
  exact⟨⟨m.h,m.t,m.g.grow D D,O8 m.inv pD pD (B67 hm ho hs.1 Mt)⟩,rfl,O7 st (hD D rfl) (hD D rfl),hn▸⟨Nat.lt_succ_self _,congrArg _ Ca.1.symm⟩⟩
theorem tX(c:FS k p ρ σ):Fp b c (eX T.I o a e p.sc ρ σ) (exec (.Assign [.Attribute o a q] e pp) p.env):=by
 show Fp b c (eB (kZ e) _ _) _
 cases kZ e
 ·exact tQ c
 ·as_aux_lemma=>
   exact Ci.b1 Qc ((sx e).val _ σ c.toCf) λv kd σ' m u st r=>.vo λmo hm=>by
    cases(aH hm).1
    exact(Mo.share st r hm).elim λm2 z=>.mv (c':=c.nx m2 z.2.1) (W:=nZ p.A T.F p.env o a u m2.s) (λη x w q=>c.nxh z.2.1 (c.nxb st q)) (λη q=>z.1▸q) (V3 z.2.2)
end
end
section
open PySem PySem.W PySem.Calls PyProof.Rows
section
variable{T:Th}{k:An}{p:Pl T}{ρ ρ':A1}{σ σ':Sg}{x y:Str}{v w:PyData}{kd:Kd}{u u1 u2:Value}{b:Bool}{q q1 q2 pp:Pos}{e:Expr}
noncomputable abbrev FS.ext(c:FS k p ρ σ)(e:∀z,lk z ρ'=lk z ρ):FS k p ρ' σ:=
 {c with
  loc:=λx s v h=>c.loc x s v ((e x).symm.trans h)
  new:=λa q=>c.new a (q.imp id (Exists.imp λx=>Exists.imp λv z=>⟨(e x).symm.trans z.1,z.2⟩))
  sep:=λx s v a h hs z=>⟨(c.sep x s v a ((e x).symm.trans h) hs z).1,λq o=>(c.sep x s v a ((e x).symm.trans h) hs z).2 q (o.imp λy=>Exists.imp λt=>Exists.imp λw r=>⟨r.1,(e y).symm.trans r.2.1,r.2.2⟩)⟩}
theorem pH{α:Type}{x y:Str}(n:x≠y)(v w:α)(ρ:List (Str×α))(z:Str):lk z (up y w (up x v ρ))=lk z (up x v (up y w ρ)):=by
 rw[Fi,Fi,Fi,Fi]
 by_cases h1:z=y
 ·rw[if_pos h1,if_neg λh=>n (h.symm.trans h1),if_pos h1]
 ·rw[if_neg h1,if_neg h1]
theorem Mj{sc:Scope}{t:Expr}{ts:List Expr}(h:Ql sc (t::ts)=true):(∃x q,t=.Name x q∧Et sc x=true)∧Ql sc ts=true:=
 (Ab (List.all_cons.symm.trans h)).imp (λh=>by
  cases e:C2 t with
  |none=>rw[e]at h;exact Bool.noConfusion h
  |some x=>rw[e]at h;exact(Bq e).elim λq z=>⟨x,q,z,h⟩) id
theorem cL{ts:List Expr}(h:pP ts=true):∃x y q1 q2,ts=[.Name x q1,.Name y q2]∧x≠y:=by
 unfold pP at h
 cases e:duo ts with
 |none=>rw[e]at h;exact Bool.noConfusion h
 |some ab=>
  rw[e]at h
  have et:ts=[ab.1,ab.2]:=by
   rcases ts with _|⟨a,_|⟨b,_|_⟩⟩<;>first|exact Ao e|(cases e;rfl)
  replace h:(match C2 ab.1 with|some x=>(match C2 ab.2 with|some y=>!sq x y|none=>false)|none=>false)=true:=h
  cases e1:C2 ab.1 with
  |none=>rw[e1]at h;exact Bool.noConfusion h
  |some x=>
   rw[e1]at h
   cases e2:C2 ab.2 with
   |none=>rw[e2]at h;exact Bool.noConfusion h
   |some y=>
    rw[e2]at h
    replace h:(!sq x y)=true:=h
    exact(Bq e1).elim λq1 z1=>(Bq e2).elim λq2 z2=>⟨x,y,q1,q2,et.trans (z1▸z2▸rfl),λe=>by rw[e,Mk]at h;exact Bool.noConfusion h⟩
theorem Yt{xs:List PyData}(h:D6 [.Name x q1,.Name y q2] xs ρ=some ρ'):∃v w,xs=[v,w]∧up y (.val,.d w) (up x (.val,.d v) ρ)=ρ':=by
 rcases xs with _|⟨v,_|⟨w,_|_⟩⟩<;>first|exact Ao h|exact⟨v,w,rfl,Cd h⟩
theorem xW.val(c:FS k p ρ σ)(r:Bp c.g v u):xW c c.toMo .val (.d v) u:=⟨.refl,(λh=>nomatch h),r,λn=>absurd rfl n⟩
theorem Oi{xs:List PyData}(h:D6 [] xs ρ=some ρ'):xs=[]∧ρ=ρ':=by
 cases xs with
 |nil=>exact⟨rfl,Cd h⟩
 |cons=>exact Ao h
theorem Vq{ts:List Expr}{xs:List PyData}(h:D6 (.Name y q::ts) xs ρ=some ρ'):∃x r,xs=x::r∧D6 ts r (up y (.val,.d x) ρ)=some ρ':=by
 cases xs with
 |nil=>exact Ao h
 |cons x r=>exact⟨x,r,rfl,h⟩
theorem A6.nil_l{α β:Type}{R:α→β→Prop}{us:List β}(h:A6 R [] us):us=[]:=by
 cases h
 rfl
theorem A6.cons_l{α β:Type}{R:α→β→Prop}{a:α}{as:List α}{us:List β}(h:A6 R (a::as) us):∃b r,us=b::r∧R a b∧A6 R as r:=by
 cases h with
 |cons h1 h2=>exact⟨_,_,rfl,h1,h2⟩
theorem uX(sc:Scope)(env:Env){ts:List Expr}(ht:Ql sc ts=true):(assignEach ts env).length=ts.length∧(assignEach ts env).findIdx? (·.1)=none:=by
 induction ts with
 |nil=>exact⟨rfl,rfl⟩
 |cons t ts ih=>
  have h:=Mj ht
  obtain⟨y,q,rfl,_⟩:=h.1
  exact⟨congrArg Nat.succ (ih h.2).1,List.findIdx?_cons.trans (congrArg (Option.map (· +1)) (ih h.2).2)⟩
theorem Ys{ts:List Expr}{xs:List PyData}(h:D6 ts xs ρ=some ρ'):xs.length=ts.length:=by
 induction ts generalizing xs ρ with
 |nil=>exact congrArg _ (Oi h).1
 |cons t ts ih=>cases xs with
  |nil=>exact Ao h
  |cons x r=>exact(A4 h).elim λy z=>congrArg Nat.succ (ih z.2)
theorem FS.names{Q:Unit→Shared→Prop}(hQ:∀c':FS k p ρ' σ,Q () c'.s){ts:List Expr}:∀{xs:List PyData}{us:List Value}{ρ:A1}(c:FS k p ρ σ),Ql p.sc ts=true→D6 ts xs ρ=some ρ'→A6 (Bp c.g) xs us→wpAny T.F.M p.A (assignInOrder ((assignEach ts p.env).map (·.2)) us) Q ff c.s:=by
 induction ts with
 |nil=>
  intro xs us ρ c _ hb al
  refine Ac λXz hXz=>?_
  obtain⟨rfl,rfl⟩:=Oi hb
  refine hXz ?_
  exact al.nil_l▸wpAny_assignInOrder_none (hQ c)
 |cons t ts ih=>
  intro xs us ρ c ht hb al
  have h:=Mj ht
  refine Ac λXz hXz=>?_
  obtain⟨y,q,rfl,hl⟩:=h.1
  obtain⟨x,r,rfl,hb⟩:=Vq hb
  obtain⟨u,r,rfl,r1,rs⟩:=al.cons_l
  refine hXz ?_
  exact wpAny_assignInOrder_more (wpAny_assign_Name (c.store (.val c r1) (E3 p.hE hl) λc1 η eg η=>ih c1 h.2 hb (eg▸rs)))
theorem FS.tupA(c:FS k p ρ σ){xs:List PyData}(r:Bp c.g (.tuple xs) u):∃a us,u=.ref a∧c.h.IsTuple a us∧A6 (Bp c.g) xs us.toList:=by
 refine Ac λXz hXz=>?_
 obtain⟨a,e,hG⟩:=r
 obtain⟨_,ho,hc,vs,n,eo,al⟩:=c.inv.gam a _ hG
 refine hXz ?_
 exact⟨a,vs,e,⟨_,ho,eo▸rfl,n,eo▸rfl⟩,al⟩
noncomputable abbrev FS.nxk(c:FS k p ρ σ){h':Heap}(hk:Heap.ExtBut c.h.objs.size c.h h'):FS k p ρ σ:=
 have kp:∀b o,c.h.get? b=some o→h'.get? b=some o:=λb o e=>hk b o (Nat.ne_of_lt (Heap.lt_size e)) e
 c.nx ⟨h',c.t,c.g,c.inv.keep kp⟩ (.keeps kp)
theorem FS.bind(c:FS k p ρ σ){t:Expr}(ht:Ws p.sc t=true)(hb:Fa t v ρ=some ρ')(r:Bp c.g v u){Q:Unit→Shared→Prop}(hQ:∀c':FS k p ρ' σ,Q () c'.s):wpAny T.F.M p.A (assign t p.env u) Q ff c.s:=by
 revert ht hb
 refine Xv.el (P:=λe x=>(match x with|.name x=>Et p.sc x|.tup ts=>Ql p.sc ts|_=>false)=true→(match x with|.name x=>some (up x (.val,.d v) ρ)|.tup es=>o1 (Zl v) λxs=>D6 es xs ρ|_=>none)=some ρ'→wpAny T.F.M p.A (assign e p.env u) Q ff c.s)
  (λη η η h=>nomatch h) (λx q h e=>?_) (λη η η h=>nomatch h) (λη η η h=>nomatch h) (λts n q h e=>?_) (λη η h=>nomatch h) (λη η η h=>nomatch h) (λη η η η h=>Bool.noConfusion h) (λη h=>nomatch h) t
 ·cases e
  exact wpAny_assign_Name (c.store (.val c r) (E3 p.hE h) λc' η η η=>hQ c')
 ·refine Ac λX hX=>?_
  obtain⟨xs,e1,e2⟩:=A4 e
  have ev:v=.tuple xs:=by cases v<;>first|exact Ao e1|exact congrArg _ (Cd e1)
  obtain⟨a,us,rfl,hT,al⟩:=c.tupA (ev▸r)
  have z:=uX p.sc p.env h
  exact hX (wpAny_assign_Tuple (s:=c.s) p.hA.handled hT ((z.1.trans (Ys e2).symm).trans al.length.symm) z.2 λh' hx=>FS.names hQ (c.nxk hx) h e2 al)
theorem gP{α:Type}{c1 c2 c3 c4 c5:Bool}{P N U Y:α}(h:c5=true→c4=true)(e:P=if c1=true then N else if c2=true then N else if c3=true then N else if c4=true then N else if c5=true then U else Y):P=N∨(c3=false∧P=Y):=by
 cases c1
 ·cases c2
  ·cases c3
   ·cases c4
    ·cases c5
     ·exact .inr ⟨rfl,e⟩
     ·exact nomatch h rfl
    ·exact .inl e
   ·exact .inl e
  ·exact .inl e
 ·exact .inl e
theorem kW{α:Type}{c:Bool}{x:α}:(if c=true then some x else none)=some x∨(if c=true then some x else none)=none:=by
 cases c
 ·exact .inr rfl
 ·exact .inl rfl
theorem cK{f:Expr→Option Str}{a b:Expr}{d:Bool}(ha:f a=some x∨f a=none)(hb:f b=some y∨f b=none)(h:((List.filterMap f [a,b]).length !=2||d)=false):List.filterMap f [a,b]=[x,y]:=by
 rw[List.filterMap_cons,List.filterMap_cons,List.filterMap_nil]at h⊢
 generalize f a=u at ha h⊢
 generalize f b=v at hb h⊢
 cases ha<;>cases hb<;>subst_vars<;>first|rfl|exact Bool.noConfusion h
theorem Wu(env:Env){ts:List Expr}{n:Nat}(ht:w3 ts e=true):swappedStores [.Tuple ts n q] e env=pure none∨∃x y q1 q2,ts=[.Name x q1,.Name y q2]∧x≠y∧swappedStores [.Tuple ts n q] e env=pure (some [x,y]):=by
 cases e with
 |Tuple vs k' q'=>
  replace ht:=Ab (show(pP ts&&(vs.all (foldedForSure 8)|| !vs.all (constantsAlone 8)))=true from ht)
  refine Ac λXz hXz=>?_
  obtain⟨x,y,q1,q2,rfl,hne⟩:=cL ht.1
  refine hXz ?_
  have h5:vs.all (constantsAlone 8)=true→vs.all (foldedForSure 8)=true:=λq=>(Ho ht.2).elim id λh=>nomatch (congrArg not q).symm.trans h
  exact(gP h5 rfl).imp id λh=>⟨x,y,q1,q2,rfl,hne,h.2.trans (congrArg (λl=>pure (some l)) (cK kW kW h.1))⟩
 |_=>exact .inl rfl
end
end
section
open PySem PySem.W PySem.Calls PyProof.Rows
section
variable{T:Th}{k:An}{p:Pl T}{ρ ρ':A1}{σ σ':Sg}{x y:Str}{kd:Kd}{u u1 u2:Value}{b:Bool}{q q1 q2 pp:Pos}{e:Expr}
theorem cM{v:V}{xs:List PyData}(h:yH v kd=some xs):v=.d (.tuple xs)∧kd=.cl:=by
 cases v with
 |o=>cases kd<;>exact Ao h
 |d y=>cases kd<;>first|exact Ao h|skip
       cases y<;>first|exact Ao h|exact⟨congrArg (λz=>V.d (.tuple z)) (Cd h),rfl⟩
noncomputable abbrev C44(p:Pl T)(ts:List Expr)(q:Pos)(n:Nat)(u:Value)(s:Shared)(Q:Flow→Shared→Prop):Prop:=wpAny T.F.M p.A (assign (.Tuple ts n q) p.env u) (λη s=>Q .next s) ff s
theorem gE{c:FS k p ρ σ}{ts:List Expr}{n:Nat}(hw:swappedStores [.Tuple ts n q] e p.env=pure none)(Q:Flow→Shared→Prop)(z:wpAny T.F.M p.A (eval e p.env) (λu s=>C44 p ts q n u s Q) ff c.s):wpAny T.F.M p.A (exec (.Assign [.Tuple ts n q] e pp) p.env) Q ff c.s:=Assign_Tuple z (Ph e ts n q pp.line p.env) hw
noncomputable abbrev B33(p:Pl T)(x y:Str)(u:Value)(s:Shared)(Q:Flow→Shared→Prop):Prop:=wpAny T.F.M p.A (unpackItems u 2 none) (λitems s=>wpAny T.F.M p.A (assignInOrder [bindName p.env y,bindName p.env x] items.reverse) (λη s=>Q .next s) ff s) ff s
theorem gO{c:FS k p ρ σ}{n:Nat}(hw:swappedStores [.Tuple [.Name x q1,.Name y q2] n q] e p.env=pure (some [x,y]))(Q:Flow→Shared→Prop)(z:wpAny T.F.M p.A (eval e p.env) (λu s=>B33 p x y u s Q) ff c.s):wpAny T.F.M p.A (exec (.Assign [.Tuple [.Name x q1,.Name y q2] n q] e pp) p.env) Q ff c.s:=Assign_Tuple_swapped (names:=[x,y]) z (Ph e [.Name x q1,.Name y q2] n q pp.line p.env) hw
theorem nV{xs:List PyData}{P:List PyData→A1→Prop}(h:D6 [.Name x q1,.Name y q2] xs ρ=some ρ')(z:∀v w,P [v,w] (up y (.val,.d w) (up x (.val,.d v) ρ))):P xs ρ':=(Yt h).elim λv h=>h.elim λw h=>h.1▸h.2▸z v w
theorem FS.swp(c:FS k p ρ σ){v w:PyData}(kx:Wg p.env x)(ky:Wg p.env y)(hne:x≠y)(r:Bp c.g (.tuple [v,w]) u){Q:Flow→Shared→Prop}(hQ:∀c':FS k p (up y (.val,.d w) (up x (.val,.d v) ρ)) σ,Q .next c'.s):B33 p x y u c.s Q:=by
 refine Ac λXz hXz=>?_
 obtain⟨a,us,rfl,hT,al⟩:=c.tupA r
 obtain⟨u1,u2,ev,r1,r2⟩:=al.two_inv
 refine hXz ?_
 cases Array.toList_inj.mp (ev:us.toList=#[u1,u2].toList)
 exact wpAny_unpackItems_tuple (s:=c.s) (items:=#[u1,u2]) p.hA.handled hT λh' hx=>wpAny_assignInOrder_more (wpAny_bindName ((c.nxk hx).store (.val _ r2) ky λc1 η eg η=>wpAny_assignInOrder_more (wpAny_bindName (c1.store (.val _ (eg▸r1)) kx λc2 η η η=>wpAny_assignInOrder_none (hQ (c2.ext (pH hne _ _ ρ)))))))
theorem w4(p:Pl T){ts:List Expr}(h:Ql p.sc (.Name x q::ts)=true):Wg p.env x:=(Mj h).1.elim λη z=>z.elim λη z=>by
 cases z.1
 exact E3 p.hE z.2
theorem nU{c:FS k p ρ σ}{xs:List PyData}{W:(Flow→Shared→Prop)→Prop}{R:List PyData→Prop}(kk:∀v w,R [v,w]→Ci b c (some (.nx,up y (.val,.d w) (up x (.val,.d v) ρ),σ)) W)(r:R xs):Ci b c (o1 (D6 [.Name x q1,.Name y q2] xs ρ) λρ=>some (.nx,ρ,σ)) W:=.vo λρ' hr=>nV (P:=λxs ρ'=>R xs→Ci b c (some (.nx,ρ',σ)) W) hr kk r
theorem gG{o:Option (RV×Sg)}{f:List PyData→Sg→Option (Fl×A1×Sg)}{t:Sem Value}{t':Sem Flow}{V:Value→Shared→(Flow→Shared→Prop)→Prop}(c:FS k p ρ σ)(rule:∀Q,wpAny T.F.M p.A t (λu s=>V u s Q) ff c.s→wpAny T.F.M p.A t' Q ff c.s)(h:P2 c.toCf o t)
  (kk:∀xs σ'(m:Mo T.F p.b σ') u(st:Nx c.toMo m),Bp m.g (.tuple xs) u→Ci false (c.nx m st) (f xs σ') (V u m.s)):Fp false c (b1 o λv k s=>o1 (yH v k) λxs=>f xs s) t':=
 Ci.b1 rule h λv kd σ' m u st r=>.vo λxs hx=>by
  refine Ac λXz hXz=>?_
  obtain⟨rfl,rfl⟩:=cM hx
  refine hXz ?_
  exact kk xs σ' m u st r
theorem tR{ts:List Expr}{n:Nat}(c:FS k p ρ σ):Fp false c (eV T.I ts e p.sc ρ σ) (exec (.Assign [.Tuple ts n q] e pp) p.env):=.vi λhb=>by
 have hb:=Ab hb
 have ht:=hb.1
 refine(Wu p.env (q:=q) (n:=n) hb.2).elim (λhw=>?_) λhw=>?_
 ·exact gG c (gE hw) ((sx e).val _ σ c.toCf) λxs σ' m u st r=>.vo λρ' hr=>λQ hQ=>(c.nx m st).bind (t:=.Tuple ts n q) (v:=.tuple xs) ht hr r λc'=>hQ c' _ rfl λh=>nomatch h
 ·refine Ac λXz hXz=>?_
  obtain⟨x,y,q1,q2,rfl,hne,hw⟩:=hw
  refine hXz ?_
  exact gG c (gO hw) ((sx e).val _ σ c.toCf) λxs σ' m u st=>nU (R:=λxs=>Bp m.g (.tuple xs) u) λv w r=>λQ hQ=>(c.nx m st).swp (w4 p ht) (w4 p (Mj ht).2) hne r λc'=>hQ c' _ rfl λh=>nomatch h
end
end
section
open PySem PySem.W PySem.Calls PyProof.Rows
section
variable{K:Type} [DecidableEq K]
theorem yQ(k:K)(v:Value):stored ([]:List (K×Value)) k v=[(k,v)]:=rfl
theorem cQ{k:K}{w v:Value}{r:List (K×Value)}(hn:k∉r.map (·.1)):stored ((k,w)::r) k v=(k,v)::r:=by
 have:∀x∈r,x.1≠k:=λx hx e=>hn (List.mem_map.mpr ⟨x,hx,e⟩)
 have e:r.map (λkv=>if kv.1=k then(kv.1,v)else kv)=r:=by
  conv=>rhs;rw[← List.map_id r]
  exact List.map_congr_left λx hx=>by rw[if_neg (this x hx)];rfl
 unfold stored
 simp[e]
theorem cP{a k:K}{w v:Value}{r:List (K×Value)}(hn:a≠k):stored ((a,w)::r) k v=(a,w)::stored r k v:=by
 unfold stored
 by_cases q:(r.any λkv=>decide (kv.1=k))=true
 ·have q':((a,w)::r).any (λkv=>decide (kv.1=k))=true:=by simp only[List.any_cons,q,Bool.or_true]
  rw[if_pos q',if_pos q];simp[hn]
 ·have q':¬((a,w)::r).any (λkv=>decide (kv.1=k))=true:=by rw[List.any_cons];simp only[hn,decide_false,Bool.false_or];exact q
  rw[if_neg q',if_neg q];rfl
theorem Ww{k:K}{p:Addr}{w v:Value}{a:Addr}{r:List (K×Addr×Value)}(hn:k∉r.map (·.1)):storedH ((k,p,w)::r) k a v=(k,p,v)::r:=by
 have:∀x∈r,x.1≠k:=λx hx e=>hn (List.mem_map.mpr ⟨x,hx,e⟩)
 have e:r.map (putAt k v)=r:=by
  conv=>rhs;rw[← List.map_id r]
  exact List.map_congr_left λx hx=>by unfold putAt;rw[if_neg (this x hx)];rfl
 unfold storedH atKey
 simp[e,putAt]
theorem Wv{b k:K}{p:Addr}{w v:Value}{a:Addr}{r:List (K×Addr×Value)}(hn:b≠k):storedH ((b,p,w)::r) k a v=(b,p,w)::storedH r k a v:=by
 unfold storedH
 have e:atKey ((b,p,w)::r) k=atKey r k:=by unfold atKey;simp[hn]
 rw[e]
 split
 ·simp[putAt,hn]
 ·rfl
end
theorem T8{es:List (PyData×Addr×Value)}{c:PyData}{a0:Addr}{u:Value}:∀x∈storedH es c a0 u,(∃y∈es,y.1=x.1∧y.2.1=x.2.1)∨(x.1=c∧x.2.1=a0):=by
 intro x hx
 unfold storedH at hx
 split at hx
 ·as_aux_lemma=>
   obtain⟨y,hy,rfl⟩:=aG hx
   refine .inl ⟨y,hy,?_⟩
   unfold putAt
   split<;>exact⟨rfl,rfl⟩
 ·rcases sB hx with h|h
  ·exact .inl ⟨x,h,rfl,rfl⟩
  ·rw[Hd h];exact .inr ⟨rfl,rfl⟩
theorem Ud(k:PyData)(v:V)(l:List (PyData×V)):(Il k v l).length≤l.length+1:=by
 induction l with
 |nil=>exact Nat.le_refl _
 |cons a l ih=>
  show(match PyData.eqv a.1 k with|true=>(a.1,v)::l|false=>(a.1,a.2)::Il k v l).length≤_
  cases PyData.eqv a.1 k
  ·exact Nat.succ_le_succ ih
  ·exact Nat.le_succ _
theorem n9(k v:PyData)(l:List (PyData×PyData)):(La k v l).length≤l.length+1:=by
 induction l with
 |nil=>exact Nat.le_refl _
 |cons a l ih=>
  show(match PyData.eqv a.1 k with|true=>(a.1,v)::l|false=>(a.1,a.2)::La k v l).length≤_
  cases PyData.eqv a.1 k
  ·exact Nat.succ_le_succ ih
  ·exact Nat.le_succ _
theorem A83(k v:PyData)(l:List (PyData×PyData)):dV (La k v l)=Il k (.d v) (dV l):=by
 induction l with
 |nil=>rfl
 |cons a l ih=>
  show dV (match PyData.eqv a.1 k with|true=>(a.1,v)::l|false=>(a.1,a.2)::La k v l)=match PyData.eqv a.1 k with|true=>(a.1,.d v)::dV l|false=>(a.1,.d a.2)::Il k (.d v) (dV l)
  cases PyData.eqv a.1 k
  ·exact congrArg (List.cons _) ih
  ·rfl
theorem Zu{g:Gh}{k:PyData}{c:Int⊕Str}(hk:It k=some c){v:V}{u:Value}(r:rel g v u){kvs:List (PyData×V)}{es:List ((Int⊕Str)×Value)}(h:Qf g kvs es):(es.map (·.1)).Nodup→Qf g (Il k v kvs) (stored es c u):=by
 induction h with
 |nil=>exactλη=>.cons ⟨hk,r⟩ .nil
 | @cons a b as bs h1 h2 ih=>
  intro nd
  have nd:=List.nodup_cons.mp nd
  show Qf g (match PyData.eqv a.1 k with|true=>(a.1,v)::as|false=>(a.1,a.2)::Il k v as) _
  rw[Rb h1.1 hk]
  by_cases q:b.1=c
  ·rw[decide_eq_true q]
   obtain⟨b1,b2⟩:=b
   subst q
   refine(cQ nd.1).symm▸(?_:Qf g ((a.1,v)::as) ((_,u)::bs))
   exact .cons ⟨h1.1,r⟩ h2
  ·rw[decide_eq_false q]
   exact cP q▸.cons h1 (ih nd.2)
theorem zC{g:Gh}{k:PyData}{c:PyData}(hk:Wa k c){v:V}{a0:Addr}{u:Value}(r:rel g v u){kvs:List (PyData×V)}{es:List (PyData×Addr×Value)}(h:A6 (λkv e=>Wa kv.1 e.1∧rel g kv.2 e.2.2) kvs es):(es.map (·.1)).Nodup→A6 (λkv e=>Wa kv.1 e.1∧rel g kv.2 e.2.2) (Il k v kvs) (storedH es c a0 u):=by
 induction h with
 |nil=>exactλη=>.cons ⟨hk,r⟩ .nil
 | @cons a b as bs h1 h2 ih=>
  intro nd
  have nd:=List.nodup_cons.mp nd
  show A6 _ (match PyData.eqv a.1 k with|true=>(a.1,v)::as|false=>(a.1,a.2)::Il k v as) _
  rw[Qu h1.1 hk]
  by_cases q:b.1=c
  ·rw[decide_eq_true q]
   obtain⟨b1,b2,b3⟩:=b
   subst q
   refine(Ww nd.1).symm▸(?_:A6 _ ((a.1,v)::as) ((_,_,u)::bs))
   exact .cons ⟨h1.1,r⟩ h2
  ·rw[decide_eq_false q]
   exact Wv q▸.cons h1 (ih nd.2)
end
section
open PySem PySem.W PySem.Calls PyProof.Rows
section
variable{T:Th}{k:An}{p:Pl T}{ρ ρ':A1}{σ σ':Sg}{x y:Str}{v w iv:V}{kd:Kd}{u u2 u3:Value}{r:RV}{b:Bool}{q q1 q2 pp:Pos}{e o i:Expr}
noncomputable abbrev Qp(p:Pl T)(u u2 u3:Value)(s:Shared)(Q:Flow→Shared→Prop):Prop:=wpAny T.F.M p.A (setItem u2 u3 u) (λη s=>Q .next s) ff s
noncomputable abbrev w5(p:Pl T)(i:Expr)(u u2:Value)(s:Shared)(Q:Flow→Shared→Prop):Prop:=wpAny T.F.M p.A (eval i p.env) (λu3 s=>Qp p u u2 u3 s Q) ff s
noncomputable abbrev C47(p:Pl T)(o i:Expr)(u:Value)(s:Shared)(Q:Flow→Shared→Prop):Prop:=wpAny T.F.M p.A (eval o p.env) (λu2 s=>w5 p i u u2 s Q) ff s
theorem T7{c:FS k p ρ σ}(Q:Flow→Shared→Prop)(z:wpAny T.F.M p.A (eval e p.env) (λu s=>C47 p o i u s Q) ff c.s):wpAny T.F.M p.A (exec (.Assign [.Subscript o i q] e pp) p.env) Q ff c.s:=wpAny_Assign_Subscript z (cO ..)
theorem tD{c:FS k p ρ σ}(ey:lk y ρ=some (.own,w))(hu:B4 p.env c.h y u2)(hi:Vw T.F c.g c.h iv u3)(hr:G9 (p.ex ρ) c.g c.h r u):Ci b c (B38 T.I q y w r iv ρ σ) (Qp p u u2 u3 c.s):=by
 cases w with
 |o=>exact trivial
 |d yd=>cases yd with
  |dict kvs=>cases iv with
   |o=>exact trivial
   |d ky=>
    refine .vo λz hz=>?_
    refine .vi λhb Q hQ=>?_
    have hb:=Ab hb
    refine Ac λXz hXz=>?_
    obtain⟨a,ob,rfl,ho,⟨⟨hlen,es,hdo,al⟩,_⟩,pa⟩:=c.own ey (λh=>nomatch h) hu
    obtain⟨ck,hc⟩:=Ra hb.1
    refine hXz ?_
    have hd:=Heap.dictOf_iff.mpr ⟨ob,ho,hdo⟩
    have hl:es.length≤I1:=al.length▸(List.length_map (as:=kvs) _).symm▸hlen
    refine wpAny_setItem_pairs (s:=c.s) (knd:=Dx T.F) (k:=ck) (N2 hc hi) hd (λh5 hd5 hs5=>?_) (Ct hl)
    obtain⟨o5,ho5,hdo5⟩:=Heap.dictOf_iff.mp hd5
    have nd:(es.map (·.1)).Nodup:=hd.elim λη z=>z.elim λη z=>z.elim λη z=>z.2.2.2.2.2
    have hp:=Zu hc (hr.clean (Dt hz)) al nd
    have hsh:El T.F c.g o5 (.dict (La ky z kvs)):=⟨Ag (n9 ky z kvs) (Dp hb.2),_,hdo5,(A83 ky z kvs).symm▸hp⟩
    exact hQ (c.turn ey hu (c.t+1) hs5 ho5 ⟨hsh,trivial⟩) _ rfl λη x w=>Dk λb q=>hs5.2 b (c.nfr ey hu q)
  |_=>exact trivial
theorem fG.but{F:Cc}{g:Gh}{h h5:Heap}{n:Nat}{mo:MO}(hlt:n<g.n)(s:Heap.SameBut (g.p n) h h5)(o5:∃o,h5.get? (g.p n)=some o)(m:P6 F g h5 (g.p n) (g.q n) mo):fG F g σ h h5 n mo:=
 ⟨hlt,λb o n1 η e=>(s.2 b n1).trans e,λb o e=>(Classical.em (b=g.p n)).elim (λz=>z▸o5) λz=>⟨o,(s.2 b z).trans e⟩,m⟩
theorem tB{c:FS k p ρ σ}(h2:Vw T.F c.g c.h w u2)(hi:Vw T.F c.g c.h iv u3)(hr:G9 (p.ex ρ) c.g c.h r u):Ci b c (B36 T.I q w r iv ρ σ) (Qp p u u2 u3 c.s):=by
 cases w with
 |d=>exact trivial
 |o n=>cases iv with
  |o=>exact trivial
  |d ky=>
   cases ky with
   |str t=>
    refine h2.oE (P:=λu2=>Ci b c _ (Qp p u u2 u3 c.s)) λhlt=>.vo λz hz=>zX (P:=λo=>Ci b c o (Qp p u _ u3 c.s)) trivial λes en=>.vi λhb=>.fin λQ hQ=>(c.inv.obj n _ en).2.elim λxs q=>?_
    refine wpAny_setItem_pairs (s:=c.s) (knd:=Dx T.F) (k:=.inr t) (N2 rfl hi) q.1 (λh5 hd5 hs5=>?_) (Ct (q.2.length▸(c.inv.obj n _ en).1))
    have nd:(xs.map (·.1)).Nodup:=q.1.elim λη z=>z.elim λη z=>z.elim λη z=>z.2.2.2.2.2
    have M:fG T.F c.g σ c.h h5 n (.tab (Il (.str t) z es)):=.but hlt hs5 (hd5.imp λη q=>q.elim λη q=>q.elim λη q=>q.1) ⟨Ag (Ud ..) (Dp hb),_,hd5,Zu rfl (hr.clean hz) q.2 nd⟩
    exact hQ (c.toMo.mtn M (c.t+1)) M.stp
   |_=>exact trivial
theorem tC{c:FS k p ρ σ}(h2:Vw T.F c.g c.h w u2)(hi:Vw T.F c.g c.h iv u3)(hr:G9 (p.ex ρ) c.g c.h r u):Ci b c (B37 T.I q w r iv ρ σ) (Qp p u u2 u3 c.s):=by
 cases w with
 |d=>exact trivial
 |o n=>cases iv with
  |o=>exact trivial
  |d ky=>
   refine h2.oE (P:=λu2=>Ci b c _ (Qp p u u2 u3 c.s)) λhlt=>.vo λz hz=>Xl (P:=λo=>Ci b c o (Qp p u _ u3 c.s)) trivial λes en=>.vi λhb=>(c.inv.obj n _ en).2.elim λxs m=>?_
   have hb:=Ab hb
   refine fN T.ok c.inv hb.1 hi (P:=λu3=>Ci b c _ (Qp p u _ u3 c.s)) λa his hG=>.fin λQ hQ=>?_
   refine wpAny_setItem_heap (s:=c.s) (knd:=Er T.F.prog T.F.w) (k:=ky) (xs:=xs) (pL p.hA) his (Zs c.inv m.1 m.2.1 m.2.2.1) (λh5 hd5 hs5=>?_) (Ct (m.2.2.2.length▸(c.inv.obj n _ en).1))
   refine hd5.elim λo5 d=>d.elim λes5 d=>d.elim λn5 d=>?_
   have M:fG T.F c.g σ c.h h5 n (.dct (Il ky z es)):=.but hlt hs5 ⟨o5,d.1⟩ ⟨Ag (Ud ..) (Dp hb.2),_,⟨o5,n5,d.1,d.2.1,d.2.2.1.trans (congrArg (Data.dict · n5) (Array.toList_inj.mp d.2.2.2.1))⟩,d.2.2.2.2.2,
    λx hm=>(T8 x hm).elim (λz=>z.elim λy z=>z.2.1▸z.2.2▸m.2.2.1 y z.1) λz=>z.1▸z.2▸⟨hG,his.1⟩,zC ⟨rfl,his.1⟩ (hr.clean hz) m.2.2.2 m.2.1⟩
   exact hQ (c.toMo.mtn M _) M.stp
theorem G7{x:Ex T}(c:Cf x σ)(hd:(y==("__debug__":Str))=false)(hu:B4 x.env c.h y u){Q:Value→Shared→Prop}(hq:Q u c.s):wpAny T.F.M x.A (eval (.Name y q) x.env) Q ff c.s:=
 wpAny_Name (hu.elim (λq=>q.2.elim λm z=>wpAny_loadName_local x.hE.kind q.1 z.1 z.2 hq) λq=>q.2.elim λa z=>wpAny_loadName_cell x.hE.kind q.1 z.1 z.2 hq) hd
theorem F5{env:Env}{sc:Scope}(hE:Ma env sc)(h:Et sc y=true):(y==("__debug__":Str))=false:=nS λe=>by
 replace h:(match lk y sc.names with|some .local=>true|some .cell=>true|_=>false)=true:=h
 rw[e,hE.debug]at h
 exact Bool.noConfusion h
theorem FS.val(c:FS k p ρ σ){sv:SK×V}(hk:Et p.sc y=true)(e:lk y ρ=some sv):∃u,B4 p.env c.h y u∧Ef T.F c.g c.h sv.1 sv.2 u:=c.loc y sv.1 sv.2 e (E3 p.hE hk)
theorem qK{F:Cc}{g:Gh}{h:Heap}{s:SK}(r:Ef F g h s v u):Vw F g h v u:=by
 refine Ac λXz hXz=>?_
 cases s
 ·refine hXz ?_
  exact .inl r
 ·refine hXz ?_
  exact .inr r
 ·refine hXz ?_
  exact .inr r
theorem tE(c:FS k p ρ σ):Fp b c (gX T.I y i e q p.sc ρ σ) (exec (.Assign [.Subscript (.Name y q1) i q2] e pp) p.env):=
 Ci.b1 T7 ((sx e).val _ σ c.toCf) λv kd σ' m u st r=>.frzL st r λm2 st2 l=>.vi λhk=>.vo λsv e1=>((c.nx m2 st2).val hk e1).elim λu2 hu=>
  .rl (W:=w5 p i u u2 m2.s) (λQ z=>G7 (c.nx m2 st2).toCf (F5 p.hE hk) hu.1 z) (Ci.b1 (λη z=>z) ((sx i).val _ σ' (c.nx m2 st2).toCf) λiv η σ'' m3 u3 st3 r3=>by
   have c3:=(c.nx m2 st2).nxh st3 hu.1
   have l3:=l.step (c.nx m2 st2).fr st3
   obtain⟨s,w⟩:=sv
   cases s with
   |own=>exact tD (c:=(c.nx m2 st2).nx m3 st3) e1 c3 r3.vw l3
   |val=>exact tB (c:=(c.nx m2 st2).nx m3 st3) (.inl (Bk st3 hu.2)) r3.vw l3
   |bor=>exact trivial)
theorem tF(c:FS k p ρ σ):Fp b c (gY T.I o i e q p.sc ρ σ) (exec (.Assign [.Subscript o i q2] e pp) p.env):=
 Ci.b1 T7 ((sx e).val _ σ c.toCf) λv kd σ' m u st r=>.frzL st r λm2 st2 l=>Ci.b1 (λη z=>z) ((sx o).val _ σ' (c.nx m2 st2).toCf) λov η σ2 m3 u2 st3 r3=>
  Ci.b1 (λη z=>z) ((sx i).val _ σ2 ((c.nx m2 st2).nx m3 st3).toCf) λiv η σ3 m4 u3 st4 r4=>tC (c:=((c.nx m2 st2).nx m3 st3).nx m4 st4) (r3.vw.step st4) r4.vw (l.step (c.nx m2 st2).fr (t0 st3 st4))
end
end
section
open PySem PySem.W PySem.Calls PyProof.Rows
section
variable{prog:Program}{w:World}{A:Around}{E:Value→Shared→Prop}{s:Shared}{l:Addr}{vs:Array Value}{n:Nat}{Q:Value→Shared→Prop}
theorem eA(l:Addr)(items:Array Value)(n:Nat)(b:Addr)(us:Array Value)(m:Nat)(dd:Option Addr)(sl:Array (Option Value))(hs0:¬(!items.isEmpty&&Builtin.List.listTooLong (items.size+us.size))=true)(hs1:items.size≤sizeLine)(hs2:items.size+us.size≤sizeLine+1):
  Meets (Builtin.«list.extend» ⟨[.ref l,.ref b],[]⟩) (λη R s=>s.heap.get? l=some (Af "list" items n)∧s.heap.get? b=some {cls:=.type "tuple",dict:=dd,data:=.seq us m,slots:=sl}∧R (.ok (.ret Value.none)) {s with heap:=s.heap.update l (Obj.mapSeq λx=>x++us),toks:=s.toks}):=
 .of_wp λprog w A R s h=>by
  obtain⟨hp,g,d,tk,os⟩:=s;obtain⟨hl,hb,h⟩:=h
  have f1:=PySem.AutoSeq1.idx_int;have f2:=PySem.AutoSeq1.sub_tuple_tuple;have f3:=PySem.AutoSeq1.sub_list_list;have f4:=PySem.AutoSeq1.sub_tuple_list;have f5:=PySem.AutoSeq1.sub_list_tuple
  have hz':(items++us).size≤sizeLine+1:=by rw[Array.size_append];exact hs2
  wp_walk using(wpAny_updateSeq hl rfl (hz:=hs1) (_hz':=hz')),wpAny_loadPart' hl,wpAny_loadPart' hb
  exact⟨_,rfl,h⟩
theorem Vm{b:Addr}{us:Array Value}{m:Nat}(ho:s.heap.get? l=some (Af "list" vs n))(hb:s.heap.get? b=some (Af "list" us m)∨∃o,s.heap.get? b=some o∧o.cls=.type "tuple"∧o.data=.seq us m)(hz:vs.size+us.size≤sizeLine)
  (hQ:∀h' m,h'.get? l=some (Af "list" (vs++us) m)→Heap.SameBut l s.heap h'→Q .none {s with heap:=h'}):wpAny (model prog w) A (call (.builtin "list.extend") [.ref l,.ref b]) Q E s:=by
 have fin:Q .none {s with heap:=s.heap.update l (Obj.mapSeq λx=>x++us),toks:=s.toks}:=hQ _ _ (get?_update_seq ho _) (Heap.SameBut.update ..)
 refine Ac λXz hXz=>?_
 rcases hb with hb|⟨⟨c,dd,dt,sl⟩,hb,h1,h2⟩
 ·refine hXz ?_
  exact call_meets PySem.F.slot_list_extend ⟨_,ho,rfl⟩ PySem.F.entry_list_extend (PySem.F.args_list_extend_2 _ _) (PySem.AutoSeq1.list_extend_list_list_0 l vs n b us m (extend_door hz) (by omega) (by omega)) ⟨ho,hb,fin⟩
 ·refine hXz ?_
  cases h1;cases h2
  exact call_meets PySem.F.slot_list_extend ⟨_,ho,rfl⟩ PySem.F.entry_list_extend (PySem.F.args_list_extend_2 _ _) (eA l vs n b us m dd sl (extend_door hz) (by omega) (by omega)) ⟨ho,hb,fin⟩
theorem S9{t:Tok}{x:Value}(ho:s.heap.get? l=some (Af "list" vs n))(hz:vs.size≤sizeLine)
  (hQ:∀h' ws m,ws.toList=x::vs.toList→h'.get? l=some (Af "list" ws m)→Heap.SameBut l s.heap h'→Q .none {s with heap:=h'}):wpAny (model prog w) A (call (.builtin "list.insert") [.ref l,.int 0 t,x]) Q E s:=by
 refine call_meets PySem.F.slot_list_insert ⟨_,ho,rfl⟩ PySem.F.entry_list_insert (PySem.F.args_list_insert_3 _ _ _) (PySem.AutoSeq1.list_insert_list_int_val_1 l vs n 0 t x (by decide) hz) ⟨ho,?_⟩
 refine hQ _ _ _ ?_ (get?_update_seq ho _) (Heap.SameBut.update ..)
 have e:(have k:=if(0:Int) <0 then((0:Int)+(vs.size:Int)).toNat else min (0:Int).toNat vs.size;(vs.extract 0 k).push x++vs.extract k).toList=x::vs.toList:=by
  have hk:(if(0:Int) <0 then((0:Int)+(vs.size:Int)).toNat else min (0:Int).toNat vs.size)=0:=rfl
  show((vs.extract 0 (if(0:Int) <0 then((0:Int)+(vs.size:Int)).toNat else min (0:Int).toNat vs.size)).push x++vs.extract (if(0:Int) <0 then((0:Int)+(vs.size:Int)).toNat else min (0:Int).toNat vs.size)).toList=_
  rw[hk]
  simp
 exact e
theorem nO{ps:List Value}{x:Value}(ho:s.heap.get? l=some (Af "list" vs n))(he:vs.toList=ps++[x])(hz:vs.size≤sizeLine)
  (hQ:∀h' ws m,ws.toList=ps→h'.get? l=some (Af "list" ws m)→Heap.SameBut l s.heap h'→Q x {s with heap:=h'}):wpAny (model prog w) A (call (.builtin "list.pop") [.ref l]) Q E s:=by
 have hs:vs.size=ps.length+1:=by rw[← Array.length_toList,he];simp
 have hx:vs[vs.size-1]?=some x:=by
  rw[← Array.getElem?_toList,he,hs];simp
 refine call_meets PySem.F.slot_list_pop ⟨_,ho,rfl⟩ PySem.F.entry_list_pop (PySem.F.args_list_pop_1 _) (PySem.MeetsSeq.list_pop_last l vs n x hx hz) ⟨ho,?_⟩
 refine hQ _ _ _ ?_ (get?_update_seq ho _) (Heap.SameBut.update ..)
 have hlt:vs.size-1<vs.size:=by omega
 unfold Array.eraseIdxIfInBounds
 rw[dif_pos hlt,Array.toList_eraseIdx,he,hs]
 simp[List.eraseIdx_append_of_length_le]
end
theorem Mv{env:Env}{sc:Scope}(hE:Ma env sc):interactive env=false:=by
 unfold interactive
 rw[hE.kind];rfl
section
variable{T:Th}{k:An}{p:Pl T}{ρ ρ':A1}{σ σ':Sg}{x y:Str}{v w iv:V}{kd:Kd}{u u2 u3:Value}{r:RV}{b:Bool}{q q1 q2 pp:Pos}{e o i:Expr}{es:List Expr}
theorem jU{x:Ex T}{a:Str}{s:Shared}{Q:Value→Shared→Prop}(hb:∀a env w,attributeBase e a env w=w)(hl:J1 q pp es.length=true)(star:starEach es x.env=es.map λe=>(false,eval e x.env))
  (h:wpAny T.F.M x.A (eval e x.env) (λu s=>∀pl,wpAny T.F.M x.A (getMethod u a pl) (λr s=>wpAny T.F.M x.A (callWith pp r.1 r.2 (backTo pp (starEach es x.env)) []) Q ff s) ff s) ff s):wpAny T.F.M x.A (eval (.Call (.Attribute e a q) es [] pp) x.env) Q ff s:=by
 have hl:=Pw hl
 have hform:methodCallForm (es.length+([]:List Keyword).length) (backTo pp (starEach es x.env)) (backToKw pp (keywordEach [] x.env))=true:=by
  rw[star]
  unfold methodCallForm
  exact(T9).symm▸decide_eq_true (Nat.lt_of_lt_of_le hl.2 (by decide))
 have hpos:methodCallPos true e x.env q pp=pure pp:=by
  unfold methodCallPos
  rw[hl.1,beq_self_eq_true];rfl
 simp only[arm_eval_Call,hb]
 refine wpAny_bind (wpAny_mono h (λu s h1=>wpAny_bind (wpAny_standAt ?_)) λη η z=>z)
 unfold methodCall
 rw[hform]
 refine wpAny_bind (wpAny_holding (m:=calleeOf _ _ _ _ _) ?_)
 unfold calleeOf
 exact wpAny_mono (h1 _) (λr s z=>wpAny_bind (wpAny_of_eq hpos z)) λη η z=>z
theorem Ci.cw(c:FS k p ρ σ){id:String}{first:List Value}{f:List RV→Sg→Option (Fl×A1×Sg)}{V:Value→Shared→(Flow→Shared→Prop)→Prop}
  (kk:∀rs σ'(m:Mo T.F p.b σ') us(st:Nx c.toMo m),Ou (p.ex ρ) m.g m.h rs us→Ci b (c.nx m st) (f rs σ') (λQ=>wpAny T.F.M p.A (call (.builtin id) (first++us)) (λu s=>V u s Q) ff m.s)):
  Ci b c (Mine.b2 (Mu (M1 T.I es) p.sc ρ σ) f) (λQ=>wpAny T.F.M p.A (callWith pp (.builtin id) first (backTo pp (starEach es p.env)) []) (λu s=>V u s Q) ff c.s):=.of λfl ρ' σ' e=>by
 obtain⟨rs,σ1,e1,e2⟩:=Av e
 have hs:=sxs (T:=T) es
 have row:=Y6 hs pp (p.ex ρ) c.toCf
 replace e1:Mu (M1 T.I es) (p.ex ρ).sc (p.ex ρ).ρ σ=_:=e1
 rw[Hm hs p.env e1]at row⊢
 rw[e1]at row
 intro Q hQ
 have fin:∀(m:Mo T.F p.b σ1) us,Nx c.toMo m→Ou (p.ex ρ) m.g m.h rs us→wpAny T.F.M p.A (call (.builtin id) (first++us)) (λu s=>V u s Q) ff m.s:=λm us st al=>by
  have z:=kk rs σ1 m us st al
  rw[e2]at z
  exact z Q λc2 fl r zz=>hQ c2 fl r λe x u q=>zz e x u (c.nxh st q)
 refine callWith_builtin Jm ?_
 cases es with
 |nil=>cases e1;exact evalArgs_nil3 (fin c.toMo [] .refl .nil)
 |cons=>exact evalArgs_plain (row _ λm us st al=>fin m us st al)
end
end
section
open PySem PySem.W PySem.Calls PyProof.Rows
section
variable{T:Th}{k:An}{p:Pl T}{ρ ρ':A1}{σ σ':Sg}{x y m:Str}{v w iv:V}{kd:Kd}{u u2 u3:Value}{r:RV}{b:Bool}{q q1 q2 pp rp:Pos}{e o i:Expr}{es args:List Expr}
noncomputable def lid(m:Str):String:=match sq m "append" with
 |true=>"list.append"
 |false=>match sq m "extend" with
  |true=>"list.extend"
  |false=>"list.insert"
structure We(T:Th)(m:Str)(rs:List RV)(f:List V→List V):Prop where
 slot:Slot "list" m (lid m)
 ty:typeOf (.builtin (lid m))=pure (.type "method_descriptor")
 run:∀(x:Ex T) σ(M:Mo T.F x.b σ) us,Ou x M.g M.h rs us→∀a vs n xs,M.h.get? a=some (Af "list" vs n)→A6 (rel M.g) xs vs.toList→xs.length≤I1→(f xs).length≤I1→
  ∀Q:Value→Shared→Prop,(∀h' ws n',h'.get? a=some (Af "list" ws n')→Heap.SameBut a M.h h'→A6 (rel M.g) (f xs) ws.toList→Q .none {M.s with heap:=h'})→wpAny T.F.M x.A (call (.builtin (lid m)) (.ref a::us)) Q ff M.s
theorem jZ{z:V}(hc:clean r=some z):We T "append" [r] (· ++[z]):=⟨slot_list_append,PySem.F.type_list_append,λx σ M us al a vs n xs ho hl hz η Q hQ=>by
 obtain⟨u,rfl,l1⟩:=al.one_inv
 exact Oj (s:=M.s) ho (λh' n' ho' hs=>hQ h' _ n' ho' hs (by rw[Array.toList_push];exact hl.append (.one (l1.clean hc)))) (Ct (Ag (Nat.le_of_eq hl.length) hz))⟩
theorem yX{x:Ex T}{M:Mo T.F x.b σ}{yd:PyData}{ys:List PyData}(r:Vw T.F M.g M.h (.d yd) u)(hy:Lm yd=some ys):∃b us m,u=.ref b∧(M.h.get? b=some (Af "list" us m)∨∃o,M.h.get? b=some o∧o.cls=.type "tuple"∧o.data=.seq us m)∧A6 (Bp M.g) ys us.toList:=by
 cases yd with
 |list xs=>cases hy;obtain⟨_,a,vs,n,rfl,ho,al,_⟩:=r.lst T.ok M.inv;exact⟨a,vs,n,rfl,.inl ho,al⟩
 |tuple xs=>cases hy;obtain⟨_,a,vs,n,rfl,ho,al,_⟩:=r.tup T.ok M.inv;exact⟨a,vs,n,rfl,.inr ⟨_,ho,rfl,rfl⟩,al⟩
 |_=>exact Ao hy
theorem o9{g:Gh}{ys:List PyData}{us:List Value}:A6 (Bp g) ys us↔A6 (rel g) (ys.map V.d) us:=by
 constructor
 ·intro h
  induction h with
  |nil=>exact .nil
  |cons a _ ih=>exact .cons a ih
 ·revert us
  induction ys with
  |nil=>exactλh=>by cases h;exact .nil
  |cons y ys ih=>exactλh=>by cases h with|cons a b=>exact .cons a (ih b)
theorem jY{yd:PyData}{ys:List PyData}(hy:Lm yd=some ys):We T "extend" [(.d yd,kd)] (· ++ys.map V.d):=⟨PySem.F.slot_list_extend,PySem.F.type_list_extend,λx σ M us al a vs n xs ho hl hz hz2 Q hQ=>by
 obtain⟨u,rfl,l1⟩:=al.one_inv
 obtain⟨b,us',m',rfl,hb,al2⟩:=yX l1.vw hy
 have e1:vs.size+us'.size≤sizeLine:=Ct (Ag (Nat.le_of_eq (by rw[List.length_append,List.length_map];exact(congrArg (· +us'.size) hl.length).trans (congrArg (xs.length+·) al2.length))) hz2)
 exact Vm (s:=M.s) ho hb e1 λh' n' ho' hs=>hQ h' _ n' ho' hs (by rw[Array.toList_append];exact hl.append (o9.mp al2))⟩
theorem A05{z:PyData}(hc:Em r=some z):We T "insert" [(.d (.int 0),kd),r] (.d z::·):=⟨PySem.F.slot_list_insert,PySem.F.type_list_insert,λx σ M us al a vs n xs ho hl hz η Q hQ=>by
 obtain⟨u,w,rfl,l1,l2⟩:=al.two_inv
 obtain⟨tk,rfl⟩:=l1.vw.scal rfl
 exact S9 (s:=M.s) ho (Ct (Ag (Nat.le_of_eq hl.length) hz)) λh' ws n' ew ho' hs=>hQ h' ws n' ho' hs (ew▸.cons (l2.clean (Dt hc)) hl)⟩
theorem bQ{α:Type}{c:Bool}{a b:Option α}{r:α}(h:eB c a b=some r):(c=true∧a=some r)∨(c=false∧b=some r):=match c,h with
 |true,h=>.inl ⟨rfl,h⟩
 |false,h=>.inr ⟨rfl,h⟩
theorem aF{rs:List RV}{ys:List V}(h:jM m rs=some ys):We T m rs (· ++ys):=by
 rcases rs with _|⟨r,_|_⟩<;>try exact Ao h
 rcases bQ h with⟨hm,h⟩|⟨_,h⟩
 ·obtain⟨z,hz,h⟩:=A4 h
  cases h
  exact Bm.mp hm▸jZ hz
 ·obtain⟨hm,h⟩:=B7 h
  obtain⟨v,kd⟩:=r
  cases v with
  |o=>exact Ao h
  |d yd=>
   obtain⟨ys',hz,h⟩:=A4 h
   cases h
   exact Bm.mp hm▸jY hz
noncomputable def C32(T:Th)(m:Str)(v:V)(rs:List RV)(v':V):Prop:=∃xs xs' f,v=.d (.list xs)∧v'=.d (.list xs')∧We T m rs f∧f (xs.map V.d)=xs'.map V.d∧xs'.length≤I1
theorem U1{rs:List RV}{v':V}(h:Gy m v rs=some v'):C32 T m v rs v':=by
 cases v with
 |o=>exact Ao h
 |d yd=>cases yd with
  |list xs=>
   rcases rs with _|⟨r,_|⟨r2,_|_⟩⟩<;>try exact Ao h
   ·rcases bQ h with⟨hm,h⟩|⟨_,h⟩
    ·obtain⟨z,hz,h⟩:=A4 h
     obtain⟨hr,h⟩:=B7 h
     cases h
     exact⟨xs,_,_,rfl,rfl,Bm.mp hm▸jZ (Dt hz),(List.map_append (f:=V.d) (l₁:=xs) (l₂:=[z])).symm,Ag (Nat.le_of_eq List.length_append) (Dp hr)⟩
    ·obtain⟨hm,h⟩:=B7 h
     obtain⟨w,kd⟩:=r
     cases w with
     |o=>exact Ao h
     |d yd=>
      obtain⟨ys,hz,h⟩:=A4 h
      obtain⟨hr,h⟩:=B7 h
      cases h
      exact⟨xs,_,_,rfl,rfl,Bm.mp hm▸jY hz,List.map_append.symm,Ag (Nat.le_of_eq List.length_append) (Dp hr)⟩
   ·obtain⟨hm,h⟩:=B7 h
    obtain⟨w,kd⟩:=r
    cases w with
    |o=>exact Ao h
    |d yd=>cases yd with
     |int n=>
      obtain⟨hb,h⟩:=B7 h
      have hb:=Ab hb
      obtain⟨z,hz,h⟩:=A4 h
      cases h
      cases of_decide_eq_true hb.1
      exact⟨xs,_,_,rfl,rfl,Bm.mp hm▸A05 hz,rfl,Dp hb.2⟩
     |_=>exact Ao h
  |_=>exact Ao h
theorem Ci.eq{c:FS k p ρ σ}{o:Option (Fl×A1×Sg)}{W:(Flow→Shared→Prop)→Prop}(h:∀r,o=some r→Ci b c o W):Ci b c o W:=match o,h with
 |none,_=>trivial
 |some r,h=>h r rfl
end
end
section
open PySem PySem.W PySem.Calls PyProof.Rows
section
variable{T:Th}{k:An}{p:Pl T}{ρ ρ':A1}{σ σ':Sg}{x y m f:Str}{v w iv:V}{kd:Kd}{u u2 u3:Value}{r:RV}{b:Bool}{q q1 q2 pp rp px:Pos}{e o i:Expr}{es args:List Expr}
theorem Gq(f:Expr)(args:List Expr)(ks:List Keyword)(r:Pos)(t:Option Expr)(n:Nat)(env:Env):swapsWith (.Call f args ks r) t n env=pure false:=rfl
noncomputable abbrev Vd(_:Value)(s:Shared)(Q:Flow→Shared→Prop):Prop:=Q .next s
noncomputable abbrev jP(p:Pl T)(m:Str)(rp:Pos)(args:List Expr)(V:Value→Shared→(Flow→Shared→Prop)→Prop)(u:Value)(s:Shared)(Q:Flow→Shared→Prop):Prop:=
 ∀pl,wpAny T.F.M p.A (getMethod u m pl) (λr s=>wpAny T.F.M p.A (callWith rp r.1 r.2 (backTo rp (starEach args p.env)) []) (λu s=>V u s Q) ff s) ff s
theorem bG(c:FS k p ρ σ){V:Value→Shared→(Flow→Shared→Prop)→Prop}{a:Addr}{id:String}(slot:Slot "list" m id)(ty:typeOf (.builtin id)=pure (.type "method_descriptor"))(ho:∃o,c.h.get? a=some o∧o.cls=.type "list"∧o.dict=none){f:List RV→Sg→Option (Fl×A1×Sg)}
  (kk:∀rs σ'(m:Mo T.F p.b σ') us(st:Nx c.toMo m),Ou (p.ex ρ) m.g m.h rs us→Ci b (c.nx m st) (f rs σ') (λQ=>wpAny T.F.M p.A (call (.builtin id) (.ref a::us)) (λu s=>V u s Q) ff m.s)):Ci b c (b2 (Mu (M1 T.I args) p.sc ρ σ) f) (jP p m rp args V (.ref a) c.s):=
 .rl (λQ z pl=>ho.elim λo ho=>getMethod_builtin (T:="list") ⟨o,ho.1,ho.2.1⟩ PySem.F.plainAttrs_list slot ty (λb e=>⟨o,Value.ref.inj e▸ho.1,ho.2.2⟩) z) (Ci.cw (first:=[.ref a]) c kk)
theorem FS.lst(c:FS k p ρ σ){xs:List PyData}(ey:lk y ρ=some (.own,.d (.list xs)))(hu:B4 p.env c.h y u):∃a vs n,u=.ref a∧c.h.get? a=some (Af "list" vs n)∧A6 (Bp c.g) xs vs.toList∧xs.length≤I1:=by
 refine Ac λXz hXz=>?_
 obtain⟨a,o,rfl,ho,⟨⟨hl,vs,n,rfl,al⟩,_⟩,_⟩:=c.own ey (λh=>nomatch h) hu
 refine hXz ?_
 exact⟨a,vs,n,rfl,ho,al,hl⟩
theorem iF{f:List RV→Sg→Option (Fl×A1×Sg)}{z:Fl×A1×Sg}(h:Mine.b2 (Mu (M1 T.I args) p.sc ρ σ) f=some z):starEach args p.env=args.map λe=>(false,eval e p.env):=(Av h).elim λη q=>q.elim λη q=>Hm (sxs args) p.env q.1
theorem C66{α:Type}{o:Option V}{s:Sg}{f:V→Kd→Sg→Option α}:Mine.b1 (T.I.pv q (o1 o λv=>some (v,kd)) s) f=o1 o λv=>f v kd s:=by cases o<;>rfl
theorem A46(c:FS k p ρ σ)(hk:Et p.sc y=true)(ey:lk y ρ=some (.own,v)):Fp false c (exO T.I y m q rp args v p.sc ρ σ) (exec (.Expr (.Call (.Attribute (.Name y q1) m q) args [] rp) pp) p.env):=.vi λhl=>by
 rw[show(λrs s=>Mine.b1 (T.I.pv rp (o1 (Gy m v rs) λv=>some (v,Kd.cl)) s) λv η s=>some (Fl.nx,up y (SK.own,v) ρ,s))=λrs s=>o1 (Gy m v rs) λv=>some (.nx,up y (.own,v) ρ,s)from funext λrs=>funext λs=>C66]
 refine .eq λz hz=>Ac λX hX=>?_
 obtain⟨rs,σ1,e1,e2⟩:=Av hz
 obtain⟨w,em,_⟩:=A4 e2
 obtain⟨xs,_,_,rfl,_,L,_⟩:=U1 (T:=T) em
 obtain⟨u,hu,_⟩:=c.val hk ey
 obtain⟨a,vs,n,rfl,ho,al,hlen⟩:=c.lst ey hu
 refine hX (.rl (W:=jP p m rp args Vd (.ref a) c.s) (λQ z=>wpAny_Expr_any (jU (x:=p.ex ρ) (λη η η=>rfl) hl (iF hz) (G7 c.toCf (F5 p.hE hk) hu z)) (Mv p.hE) (Gq ..)) (bG (b:=false) (V:=Vd) c L.slot L.ty ⟨_,ho,rfl,rfl⟩ λrs σ' M us st rr=>.vo λv' em=>?_))
 refine Ac λXz hXz=>?_
 obtain⟨xs',xs2,f,e5,rfl,L,ef,hz⟩:=U1 (T:=T) em
 refine hXz ?_
 cases e5
 have hu1:B4 p.env M.h y (.ref a):=c.nxh st hu
 have ho1:M.h.get? a=some (Af "list" vs n):=st.keep _ _ ho (c.own ey (λh=>nomatch h) hu).prv.im id
 have al1:=o9.mp (al.imp λη η r=>(Bk st r:Bp M.g _ _))
 exactλQ hQ=>L.run (p.ex ρ) σ' M us rr a vs n _ ho1 al1 ((List.length_map _).symm▸hlen) (ef▸(List.length_map _).symm▸hz) _ λh' ws n' ho' hs hal=>hQ ((c.nx M st).turn ey hu1 M.t hs ho' (y:=.list xs2) ⟨⟨hz,ws,n',rfl,o9.mpr (ef▸hal)⟩,trivial⟩) _ rfl λh=>absurd h Bool.false_ne_true
theorem Xs{n:Nat}(h:l5 n σ=true):∃xs,σ[n]?=some (.lst xs):=by
 unfold l5 at h
 cases e:σ[n]? with
 |none=>rw[e]at h;exact Bool.noConfusion h
 |some mo=>rw[e]at h;cases mo<;>first|exact⟨_,rfl⟩|exact absurd h Bool.false_ne_true
theorem B16{n:Nat}{α:Type}{f:List V→Option α}{r:α}(h:(match σ[n]? with|some (.lst xs)=>f xs|_=>none)=some r):∃xs,σ[n]?=some (.lst xs)∧f xs=some r:=by
 cases e:σ[n]? with
 |none=>rw[e]at h;exact Ao h
 |some mo=>rw[e]at h;cases mo<;>first|exact Ao h|exact⟨_,rfl,h⟩
theorem A48(c:FS k p ρ σ)(hb:C5 o=true):Fp b c (exL T.I o m q rp args p.sc ρ σ) (exec (.Expr (.Call (.Attribute o m q) args [] rp) pp) p.env):=.eq λz hz=>by
 refine Ac λXz hXz=>?_
 obtain⟨v,kd,σ1,e1,e2⟩:=Fm hz
 refine hXz ?_
 cases v with
 |d=>exact Ao e2
 |o n=>
  obtain⟨hl,e2⟩:=B7 e2
  have hl:=Ab hl
  have hst:=iF e2
  refine Ci.b1 (V:=jP p m rp args Vd) (λQ z=>wpAny_Expr_any (jU (x:=p.ex ρ) ((sx (T:=T) o).bas hb) hl.1 hst z) (Mv p.hE) (Gq ..)) ((sx o).val _ σ c.toCf) λv η σ1 m1 u st r=>?_
  cases v with
  |d=>exact trivial
  |o n=>
   refine .vi λhl=>.eq λz hz=>Ac λX hX=>?_
   obtain⟨rs,σ2,_,e3⟩:=Av hz
   obtain⟨ys,em,_⟩:=A4 e3
   have L:=aF (T:=T) em
   obtain⟨xs0,e0⟩:=Xs (Ab hl).2
   obtain⟨hlt,rfl⟩:=r.vw.o
   obtain⟨_,vs,n',ho,_⟩:=m1.inv.obj n _ e0
   refine hX (bG (V:=Vd) (c.nx m1 st) L.slot L.ty ⟨_,ho,rfl,rfl⟩ λrs σ' M us st2 rr=>.vo λys em=>zY (P:=λo=>Ci b _ o _) trivial λxs en=>.vi λhr=>.fin λQ hQ=>?_)
   have hp:M.g.p n=m1.g.p n:=(st2.p n hlt).1
   have I:=M.inv.obj n _ en
   have hz:(xs++ys).length≤I1:=Ag (Nat.le_of_eq List.length_append) (Dp hr)
   refine I.2.elim λvs2 q=>q.elim λn2 q=>(aF (T:=T) em).run (p.ex ρ) σ' M us rr (m1.g.p n) vs2 n2 xs (hp▸q.1) q.2 I.1 hz _ λh' ws n3 ho' hs hal=>?_
   rw[← hp]at ho' hs
   have Tm:fG T.F M.g σ' M.h h' n (.lst (xs++ys)):=.but (Nat.lt_of_lt_of_le hlt st2.n) hs ⟨_,ho'⟩ ⟨hz,ws,n3,ho',hal⟩
   exact hQ (M.mtn Tm M.t) Tm.stp
theorem A45(c:FS k p ρ σ)(hs:∀n,swapsWith e none n p.env=pure false):Fp b c (exV T.I e p.sc ρ σ) (exec (.Expr e pp) p.env):=
 Ci.b1 (V:=Vd) (λQ z=>wpAny_Expr_any z (Mv p.hE) (hs _)) ((sx e).val _ σ c.toCf) λv kd σ' m u st r=>.vi λη Q hQ=>hQ (c.nx m st) _ rfl λη η η=>id
end
end
section
open PySem PySem.W PySem.Calls PyProof.Rows
noncomputable def Jd(F:Cc)(d:Nat)(w:Wc):Prop:=∀f v σ v' σ',w.io f v σ=some (v',σ')→∀A b(m:Mo F b σ) u,Rc d A→Bh F m.g m.h v u→
 ∀Q:Value→Shared→Prop,(∀(m':Mo F b σ') r,De (λa=>u=.ref a) m.g m.h m'.g m'.h→Bh F m'.g m'.h v' u→Q r m'.s)→codeAny F.M A (.call (.ref (F.FV f)) ⟨[u],[]⟩) (z9 Q) m.s
section
variable{T:Th}{k:An}{p:Pl T}{ρ ρ':A1}{σ σ':Sg}{x y m f:Str}{v w iv:V}{kd:Kd}{u u2 u3:Value}{r:RV}{b:Bool}{q q1 q2 pp rp px:Pos}{e o i:Expr}{es args:List Expr}
theorem Bh.ref{F:Cc}{g:Gh}{h:Heap}(r:Bh F g h v u):∃a,u=.ref a:=by
 cases v
 ·exact r.imp λa q=>q.elim λo q=>q.1
 ·exact r.elim
theorem A49(hio:Jd T.F T.d T.w)(c:FS k p ρ σ):Fp false c (exC T.I f y p.sc ρ σ) (exec (.Expr (.Call (.Name f q1) [.Name y q2] [] rp) pp) p.env):=.vi λhb=>.vo λv hv=>by
 have hb:=Ab hb
 have hg:=Ab hb.2
 have ey:=G6 hv
 refine Ac λXz hXz=>?_
 obtain⟨u,hu,_⟩:=c.val hb.1 ey
 have ow:=c.own ey (λh=>nomatch h) hu
 obtain⟨a,rfl⟩:=ow.ref
 refine hXz ?_
 have hk:=T.ok.fns f hg.2
 refine .of λfl ρ' σ' e Q hQ=>?_
 obtain⟨v',s',e1,e2⟩:=Av e
 cases e2
 refine wpAny_Expr_any (Call_Name rfl (Ez c.toCf (Ga hg.1) (.inl hk.1) (callWith_of rfl (keeps_K hk.2) (evalArgs_plain (wpAny_items_cons (G7 c.toCf (F5 p.hE hb.1) hu (wpAny_items_nil ⟨J4 T.ok c.inv,?_⟩)) rfl))))) (Mv p.hE) (Gq ..)
 refine wpAny_call (X1 (hio f v σ _ _ e1 p.A p.b c.toMo (.ref a) (wD p.hA) ow (λη s'=>Q .next s') λm' r st o=>?_) λη η z=>z)
 exact hQ (c.io ey hu m' (st.weak λb e=>(Value.ref.inj e).symm) o) _ rfl λh=>absurd h Bool.false_ne_true
theorem tS(c:FS k p ρ σ)(hx:Et p.sc x=true):Fp false c (vF x y m q rp p.sc ρ σ) (exec (.Assign [.Name x px] (.Call (.Attribute (.Name y q1) m q) [] [] rp) pp) p.env):=.vi λhb=>.vo λv hv=>.vo λz hz=>by
 have hb:=Ab hb
 have hb1:=Ab hb.1
 have ey:=G6 hv
 cases v with
 |o=>exact Ao hz
 |d yd=>cases yd with
  |list xs=>
   obtain⟨z',ez,hz⟩:=A4 hz
   cases hz
   refine Ac λXz hXz=>?_
   obtain⟨u,hu,_⟩:=c.val hb1.1 ey
   obtain⟨a,vs,n,rfl,ho,al,hlen⟩:=c.lst ey hu
   have hm:=Bm.mp hb1.2
   subst hm
   refine hXz ?_
   have hne:xs≠[]:=λe=>nomatch (e▸ez:([]:List PyData).getLast?=some z')
   have ex:xs.dropLast++[z']=xs:=(congrArg (xs.dropLast++[·]) (Cd ((List.getLast?_eq_some_getLast hne).symm.trans ez)).symm).trans (List.dropLast_concat_getLast hne)
   intro Q hQ
   refine wpAny_Assign_Name (jU (x:=p.ex ρ) (es:=[]) (λη η η=>rfl) hb.2 rfl (G7 c.toCf (F5 p.hE hb1.1) hu λpl=>getMethod_builtin (T:="list") ⟨_,ho,rfl⟩ PySem.F.plainAttrs_list PySem.F.slot_list_pop PySem.F.type_list_pop (λb e=>⟨_,Value.ref.inj e▸ho,rfl⟩) (callWith_builtin rfl (evalArgs_nil3 ?_)))) (Gq ..)
   have al2:A6 (Bp c.g) (xs.dropLast++[z']) vs.toList:=ex.symm▸al
   have hl:vs.toList.length=xs.dropLast.length+1:=al2.length.trans List.length_append
   refine Ac λXz hXz=>?_
   obtain⟨us1,u1,eu,hl1⟩:=aR hl
   refine hXz ?_
   have a1:=al2.take xs.dropLast.length
   have a2:=al2.drop xs.dropLast.length
   simp only[eu,List.take_left' rfl,List.take_left' hl1]at a1
   simp only[eu,List.drop_left' rfl,List.drop_left' hl1]at a2
   cases a2 with
   |cons r1 _=>
    refine nO (s:=c.s) (ps:=us1) (x:=u1) ho eu (Ct (Ag (Nat.le_of_eq al.length) hlen)) λh3 ws m' ew ho3 hs3=>?_
    have hl3:xs.dropLast.length≤I1:=Ag (Nat.le_of_eq List.length_dropLast) (Ag (Nat.sub_le ..) hlen)
    exact(c.turn ey hu c.t hs3 ho3 (y:=.list xs.dropLast) ⟨⟨hl3,ws,m',rfl,ew▸a1⟩,trivial⟩).store (.val (c.turn ey hu c.t hs3 ho3 (y:=.list xs.dropLast) ⟨⟨hl3,ws,m',rfl,ew▸a1⟩,trivial⟩) r1) (E3 p.hE hx) λc' η η η=>hQ c' _ rfl λh=>absurd h Bool.false_ne_true
  |_=>exact Ao hz
theorem tW{ks:List (Option Expr)}(c:FS k p ρ σ)(hx:Et p.sc x=true):Fp false c (B00 T.I x ks es p.sc ρ σ) (exec (.Assign [.Name x px] (.Dict ks es q) pp) p.env):=(c.frzs es).elim λc1 e1=>.mv (c':=c1) (λh=>absurd h Bool.false_ne_true) (λQ z=>e1▸z)
 (Ci.b2 (V:=λu s Q=>wpAny T.F.M p.A (zD p.env x u) Q ff s) (Vu rfl) (bI (sxs es) c1.toCf) λkvs σ' M u st r Q hQ=>by
  obtain⟨hlen,D,rfl,hD,pD,xs,hd,al⟩:=r
  have hm:P6 T.F (M.g.grow D D) M.h D D (.tab kvs):=⟨hlen,xs,hd,Tp Mt al⟩
  let M2:Mo T.F p.b (σ'++[.tab kvs]):=⟨M.h,M.t,M.g.grow D D,O8 M.inv pD pD hm⟩
  exact wpAny_bind (c1.store (m:=M2) (s:=.val) (v:=.o σ'.length) ⟨O7 st hD hD,(λh=>nomatch h),V2 M.inv,λn=>absurd rfl n⟩ (E3 p.hE hx) λc' η η η=>wpAny_pure (hQ c' _ rfl λh=>absurd h Bool.false_ne_true)))
end
end
section
open PySem PySem.W PySem.Calls PyProof.Rows
section
variable{T:Th}{k:An}{p:Pl T}{ρ ρ':A1}{σ σ':Sg}{x y m f:Str}{v w iv:V}{kd:Kd}{u u2 u3:Value}{r:RV}{b:Bool}{q q1 q2 pp rp px:Pos}{e o i:Expr}{es args:List Expr}
theorem d3{f:Expr}{args:List Expr}{ks:List Keyword}{z:Str×Str×Pos}(h:d4 f args ks=some z):args=[]∧ks=[]∧∃q1,f=.Attribute (.Name z.1 q1) z.2.1 z.2.2:=by
 obtain⟨hb,h⟩:=B7 h
 have hb:=Ab hb
 refine⟨List.isEmpty_iff.mp hb.1,List.isEmpty_iff.mp hb.2,?_⟩
 revert h
 exact Xv.el (P:=λf w=>(match w with|.attr e m q=>o1 (C2 e) λy=>some (y,m,q)|_=>none)=some z→∃q1,f=.Attribute (.Name z.1 q1) z.2.1 z.2.2) (λη η η h=>Ao h) (λη η h=>Ao h) (λe a q h=>(A4 h).elim λy h=>(Bq h.1).elim λq1 e1=>⟨q1,e1▸Cd h.2▸rfl⟩)
  (λη η η h=>Ao h) (λη η η h=>Ao h) (λη η h=>Ao h) (λη η η h=>Ao h) (λη η η η h=>Ao h) (λη h=>Ao h) f
theorem tT(c:FS k p ρ σ):Fp false c (eW T.I x e p.sc ρ σ) (exec (.Assign [.Name x px] e pp) p.env):=.vi λhk=>by
 have g:=λe=>tU (e:=e) (px:=px) (pp:=pp) c (E3 p.hE hk)
 exact Xv.el (P:=λe w=>Fp false c (match w with
   |.call f args ks r=>match d4 f args ks with|some (y,m,q)=>vF x y m q r p.sc ρ σ|none=>Pb T.I x e p.sc ρ σ
   |.dct ks vs=>eB (sq x "w") (B00 T.I x ks vs p.sc ρ σ) (Pb T.I x e p.sc ρ σ)
   |_=>Pb T.I x e p.sc ρ σ) (exec (.Assign [.Name x px] e pp) p.env)) (λη η η=>g _) (λη η=>g _) (λη η η=>g _) (λη η η=>g _) (λη η η=>g _) (λη η=>g _)
  (λks vs q=>by
   cases sq x "w"
   ·exact g _
   ·exact tW c hk)
  (λf args ks r=>by
   show Fp false c (match d4 f args ks with|some (y,m,q)=>vF x y m q r p.sc ρ σ|none=>Pb T.I x (.Call f args ks r) p.sc ρ σ) _
   cases h:d4 f args ks with
   |none=>exact g _
   |some z=>
    obtain⟨rfl,rfl,q1,rfl⟩:=d3 h
    exact tS c hk) (λη=>g _) e
theorem bK(c:FS k p ρ σ):Fp b c (o4 T.I o i e q p.sc ρ σ) (exec (.Assign [.Subscript o i q2] e pp) p.env):=
 Xv.el (P:=λo w=>Fp b c (match w with|.name y=>gX T.I y i e q p.sc ρ σ|.attr _ _ _=>gY T.I o i e q p.sc ρ σ|_=>none) (exec (.Assign [.Subscript o i q2] e pp) p.env)) (λη η η=>trivial) (λη η=>tE c) (λη η η=>tF c) (λη η η=>trivial) (λη η η=>trivial) (λη η=>trivial) (λη η η=>trivial) (λη η η η=>trivial) (λη=>trivial) o
theorem I5{α:Type}{l:List α}{a:α}(h:sole l=some a):l=[a]:=by
 rcases l with _|⟨a,_|_⟩<;>first|exact Ao h|exact congrArg (λa=>[a]) (Cd h)
theorem yU{ts:List Expr}:SS false T (.Assign ts e pp):=λk p ρ σ c=>.vo λt ht=>by
 cases I5 ht
 exact Xv.el (P:=λt w=>Fp false c (match w with|.name x=>eW T.I x e p.sc ρ σ|.attr o a _=>eX T.I o a e p.sc ρ σ|.sub b i=>o4 T.I b i e pp p.sc ρ σ|.tup ts=>eV T.I ts e p.sc ρ σ|_=>none) (exec (.Assign [t] e pp) p.env))
  (λη η η=>trivial) (λη η=>tT c) (λη η η=>tX c) (λη η η=>bK c) (λη η η=>tR c) (λη η=>trivial) (λη η η=>trivial) (λη η η η=>trivial) (λη=>trivial) t
theorem qI{ts:List Expr}(h:kY ts=true):SS b T (.Assign ts e pp):=λk p ρ σ c=>.vo λt ht=>by
 cases I5 ht
 revert h
 exact Xv.el (P:=λt w=>(match w with|.sub b _=>(C2 b).isSome|_=>false)=true→Fp b c (match w with|.name x=>eW T.I x e p.sc ρ σ|.attr o a _=>eX T.I o a e p.sc ρ σ|.sub b i=>o4 T.I b i e pp p.sc ρ σ|.tup ts=>eV T.I ts e p.sc ρ σ|_=>none) (exec (.Assign [t] e pp) p.env))
  (λη η η h=>nomatch h) (λη η h=>nomatch h) (λη η η h=>nomatch h) (λη η η η=>bK c) (λη η η h=>nomatch h) (λη η h=>nomatch h) (λη η η h=>nomatch h) (λη η η η h=>Bool.noConfusion h) (λη h=>nomatch h) t
theorem A47(c:FS k p ρ σ):Fp false c (xG T.I (.Call (.Attribute (.Name y q1) m q) args [] rp) y m q rp args p.sc ρ σ) (exec (.Expr (.Call (.Attribute (.Name y q1) m q) args [] rp) pp) p.env):=by
 have g:Fp false c (exV T.I (.Call (.Attribute (.Name y q1) m q) args [] rp) p.sc ρ σ) (exec (.Expr (.Call (.Attribute (.Name y q1) m q) args [] rp) pp) p.env):=A45 c λη=>rfl
 unfold xG
 cases hk:Et p.sc y with
 |false=>exact g
 |true=>
   refine .vo λsv e=>?_
   obtain⟨s,v⟩:=sv
   cases s
   ·exact g
   ·exact A46 c hk e
   ·exact g
theorem qG(hio:Jd T.F T.d T.w):SS false T (.Expr e pp):=λk p ρ σ c=>
 Xv.el (P:=λe w=>Fp false c (match w with|.call f args ks r=>iB ks.isEmpty (exE T.I e f args r p.sc ρ σ)|_=>none) (exec (.Expr e pp) p.env)) (λη η η=>trivial) (λη η=>trivial) (λη η η=>trivial) (λη η η=>trivial) (λη η η=>trivial) (λη η=>trivial) (λη η η=>trivial)
  (λf args ks r=>.vi λhk=>by
   cases List.isEmpty_iff.mp hk
   exact Xv.el (P:=λf w=>Fp false c (match w with
     |.attr o m q=>match xw o with|.name y=>xG T.I (.Call f args [] r) y m q r args p.sc ρ σ|.attr _ _ _=>exL T.I o m q r args p.sc ρ σ|_=>none
     |.name f=>o1 (sole args) λa=>o1 (C2 a) λy=>exC T.I f y p.sc ρ σ
     |_=>none) (exec (.Expr (.Call f args [] r) pp) p.env)) (λη η η=>trivial)
    (λf q=>.vo λa ha=>.vo λy hy=>by
     cases I5 ha
     obtain⟨q2,rfl⟩:=Bq hy
     exact A49 hio c)
    (λo m q=>Xv.el (P:=λo w=>Fp false c (match w with|.name y=>xG T.I (.Call (.Attribute o m q) args [] r) y m q r args p.sc ρ σ|.attr _ _ _=>exL T.I o m q r args p.sc ρ σ|_=>none) (exec (.Expr (.Call (.Attribute o m q) args [] r) pp) p.env))
     (λη η η=>trivial) (λη η=>A47 c) (λη η η=>A48 c rfl) (λη η η=>trivial) (λη η η=>trivial) (λη η=>trivial) (λη η η=>trivial) (λη η η η=>trivial) (λη=>trivial) o)
    (λη η η=>trivial) (λη η η=>trivial) (λη η=>trivial) (λη η η=>trivial) (λη η η η=>trivial) (λη=>trivial) f) (λη=>trivial) e
end
end
section
open PySem PySem.W PySem.Calls PyProof.Rows
theorem dF{prog:Program}{w:World}{A:Around}{E:Value→Shared→Prop}{s:Shared}{es:List Expr}{k:Nat}{q:Pos}{I:Addr}{v:Value}{Q:Unit→Shared→Prop}(hI:∃o n,s.heap.get? I=some o∧o.cls=.type n∧n∈Ec)(h:Q () s):wpAny (model prog w) A (letOwnedTupleGo (.Tuple es k q) (.ref I) v) Q E s:=by
 obtain⟨⟨c,d,dt,sl⟩,n,ho,hc,hn⟩:=hI
 subst hc
 have hcon:(["enumerate","zip","dict_itemiterator","dict_reverseitemiterator","odict_iterator","itertools.zip_longest","itertools.pairwise"].contains n)=false:=(by decide:∀m∈Ec,(["enumerate","zip","dict_itemiterator","dict_reverseitemiterator","odict_iterator","itertools.zip_longest","itertools.pairwise"].contains m)=false) n hn
 cases v with
 |ref a=>
  refine wpAny_bind (wpAny_load ho ?_)
  cases dt with
  |fields vs=>
   show wpAny _ _ (if(_&&_)=true then _ else _) _ _ _
   exact(hcon)▸wpAny_pure h
  |_=>exact wpAny_pure h
 |_=>exact wpAny_pure h
theorem kG{prog:Program}{w:World}{A:Around}{E:Value→Shared→Prop}{s:Shared}{sc:Scope}{t:Expr}{I:Addr}{v:Value}{Q:Unit→Shared→Prop}(ht:Ws sc t=true)(hI:∃o n,s.heap.get? I=some o∧o.cls=.type n∧n∈Ec)(h:Q () s):wpAny (model prog w) A (letOwnedTupleGo t (.ref I) v) Q E s:=by
 revert ht
 exact Xv.el (P:=λe x=>(match x with|.name x=>Et sc x|.tup ts=>Ql sc ts|_=>false)=true→wpAny (model prog w) A (letOwnedTupleGo e (.ref I) v) Q E s)
  (λη η η h=>nomatch h) (λη η η=>wpAny_pure h) (λη η η h=>nomatch h) (λη η η h=>nomatch h) (λη η η η=>dF hI h) (λη η h=>nomatch h) (λη η η h=>nomatch h) (λη η η η h=>Bool.noConfusion h) (λη h=>nomatch h) t
theorem U6{F:Cc}{g:Gh}{h:Heap}{v:V}{a:Addr}(r:Bh F g h v (.ref a))(hI:∃o n,h.get? a=some o∧o.cls=.type n∧n∈Ec):False:=by
 obtain⟨o,n,ho,hc,hn⟩:=hI
 cases v with
 |o=>exact r
 |d y=>
  obtain⟨a',o',e1,ho',hs,_⟩:=r
  cases e1
  cases ho.symm.trans ho'
  cases y with
  |list xs=>
   obtain⟨_,vs,m,rfl,_⟩:=hs.1
   cases hc
   exact absurd hn (by decide)
  |dict xs=>
   obtain⟨_,es,hx,_⟩:=hs.1
   cases hx.elim λη q=>q.elim λη q=>q.1.1.symm.trans hc
   exact absurd hn (by decide)
  |tuple xs=>exact hs.2
  |_=>exact hs.1
section
variable{T:Th}{k:An}{p:Pl T}{ρ ρ':A1}{σ σ':Sg}
noncomputable abbrev FS.an(c:FS k p ρ σ):An:=⟨c.h,c.g,FP p.env ρ c.h⟩
noncomputable abbrev FS.at'(c:FS k p ρ σ):FS c.an p ρ σ:={c with st:=.refl,new:=λη h=>.inl h}
noncomputable abbrev FS.back(c:FS k p ρ σ)(c':FS c.an p ρ' σ'):FS k p ρ' σ':={c' with st:=c.st.trans c'.st c.new,new:=λa q=>(c'.new a q).elim (c.new a) λe=>.inr (c.st.alive.fresh e)}
theorem Sx.back{c:FS k p ρ σ}{g:Gh}{h:Heap}{fl:Fl}{f:Flow}(r:Sx c.an T.F g h fl f):Sx k T.F g h fl f:=by
 cases fl with
 |nx=>exact r
 |cont=>exact r
 |ret rv=>
  obtain⟨v,kd⟩:=rv
  refine r.imp λu q=>⟨q.1,?_⟩
  cases kd with
  |cl=>exact q.2
  |fr=>exact⟨q.2.1,λa e=>(q.2.2 a e).elim (c.new a) λe=>.inr (c.st.alive.fresh e)⟩
  |al=>exact q.2
structure oY(k:An)(p:Pl T)(I:Addr)(u:Value)(P:Nat→Value→Prop)(St:Nat→Heap→Prop)(xs:List PyData):Prop where
 nf:¬Oy p.env I
 nI:k.n.get? I=none
 here:∀i h,St i h→∃o n,h.get? I=some o∧o.cls=.type n∧n∈Ec
 W:∃fp,Walks T.F.prog T.F.w p.A I fp [I] xs.length P St∧∀b∈fp,b=I∨u=.ref b
variable{I:Addr}{u:Value}{P:Nat→Value→Prop}{St:Nat→Heap→Prop}{xs:List PyData}{i:Nat}
noncomputable def I3(c:FS k p ρ σ)(u:Value):Prop:=∀b,u=.ref b→¬Z6 c.g b∧¬FP p.env ρ c.h b∧∃o,c.h.get? b=some o
structure oX(c:FS k p ρ σ)(I:Addr)(u:Value)(P:Nat→Value→Prop)(St:Nat→Heap→Prop)(xs:List PyData)(i:Nat):Prop where
 pv:Hi T.F c.g c.h I
 w:St i c.h
 ft:I3 c u
 item:∀i v,P i v→i<xs.length→∃y,xs[i]?=some y∧Bp c.g y v
theorem FS.noFP(c:FS k p ρ σ){b:Addr}{y:PyData}(e:c.g.G b=some y):¬FP p.env ρ c.h b:=λq=>q.elim (λq=>dA (c.fr b q).G e rfl) λq=>q.elim λx q=>q.elim λv q=>dA (c.own q.1 (λh=>nomatch h) q.2).prv.G e rfl
theorem oY.nr(C:oY k p I u P St xs)(c:FS k p ρ σ){i:Nat}(w:St i c.h):¬Wb p.env ρ c.h I:=λq=>q.elim C.nf λq=>q.elim λx q=>q.elim λs q=>q.elim λv q=>U6 (c.own q.1 q.2.1 q.2.2) (C.here i _ w)
theorem oY.np(C:oY k p I u P St xs)(c:FS k p ρ σ){i:Nat}(w:St i c.h):¬FP p.env ρ c.h I:=λq=>C.nr c w (q.imp id λq=>q.imp λx q=>q.elim λv q=>⟨.own,v,q.1,(λh=>nomatch h),q.2⟩)
theorem I3.step{c:FS k p ρ σ}(S:I3 c u)(c':FS c.an p ρ' σ'):I3 (c.back c') u:=λb e=>(S b e).2.2.elim λo ho=>⟨c'.st.mut ho (S b e).1,λq=>(c'.new b q).elim (S b e).2.1 λe=>Fc e ho,o,c'.st.keep b o ho (S b e).1 (S b e).2.1⟩
theorem oX.step(C:oY k p I u P St xs){c:FS k p ρ σ}(M:oX c I u P St xs i)(c':FS c.an p ρ' σ'):oX (c.back c') I u P St xs i where
 pv:=M.pv.step c'.st (C.np c M.w)
 w:=C.W.elim λfp W=>W.1.frame i _ _ M.w λb hb o e=>(W.2 b hb).elim (λq=>c'.st.keep b o e (q▸M.pv.im) (q▸C.np c M.w)) λq=>c'.st.keep b o e (M.ft b q).1 (M.ft b q).2.1
 ft:=M.ft.step c'
 item:=λi v p h=>(M.item i v p h).imp λy q=>⟨q.1,Bk c'.st q.2⟩
theorem oX.next(C:oY k p I u P St xs){c:FS k p ρ σ}(M:oX c I u P St xs i){h3:Heap}{t:Nat}(kp:∀b o,b≠I→c.h.get? b=some o→h3.get? b=some o){j:Nat}(w:St j h3):oX (c.gone M.pv C.nI (C.nr c M.w) h3 t kp) I u P St xs j:=
 have hI:=(C.here _ _ w).imp λo q=>q.elim λη q=>q.1
 ⟨M.pv.priv hI,w,λb e=>⟨(M.ft b e).1,λq=>(M.ft b e).2.1 (q.imp id (Exists.imp λx=>Exists.imp λv q=>⟨q.1,Dk (λa q=>(c.fr a q).here.elim λo ho=>ho.trans (kp a o (λe=>C.nf (e▸q)) ho).symm) q.2⟩)),(Classical.em (b=I)).elim (λq=>q▸hI) λq=>(M.ft b e).2.2.imp λo=>kp b o q⟩,M.item⟩
noncomputable def fA(M:Model)(A:Around)(R:Result→Shared→Prop)(tgt:Expr)(body:List Stmt)(env:Env)(I:Addr)(J:Nat→Shared→Prop)(E:Value→Shared→Prop)(n:Nat)(s:Shared):Prop:=
 wpAny M A (pyNext (.ref I)) (λr s₁=>match r with
  |none=>wpAny M A (execs [] env) (λf s₃=>R (.ok f) s₃) E s₁
  |some v=>wpAny M A (letOwnedTupleGo tgt (.ref I) v) (λη s₁'=>wpAny M A (assign tgt env v) (λη s₂=>wpAny M A (execs body env) (λf s₃=>match f with
    |.next|.cont=>∃m,m<n∧J m s₃
    |.brk=>R (.ok .next) s₃
    |.ret v=>R (.ok (.ret v)) s₃) E s₂) E s₁') E s₁) E s
variable{R:Result→Shared→Prop}{t:Expr}{body:List Stmt}{J:Nat→Shared→Prop}{E:Value→Shared→Prop}{n:Nat}
theorem mK(C:oY k p I u P St xs)(c:FS k p ρ σ)(M:oX c I u P St xs xs.length)(fin:∀c':FS k p ρ σ,R (.ok .next) c'.s):fA T.F.M p.A R t body p.env I J E n c.s:=
 C.W.elim λfp W=>W.1.done c.s _ _ M.w λh3 tk kp=>wpAny_execs_nil (fin (c.gone M.pv C.nI (C.nr c M.w) h3 tk λb o n e=>kp b o (λq=>n (Hd q)) e))
theorem V8(c:FS k p ρ σ)(hB:Oz false T body)(ht:Ws p.sc t=true){x:PyData}{v:Value}(hI:∃o n,c.h.get? I=some o∧o.cls=.type n∧n∈Ec)(hr:Bp c.g x v){ρb ρ1:A1}{σ2:Sg}{fl:Fl}(hb:Fa t x ρ=some ρb)(e:Dn T.I body p.sc ρb σ=some (fl,ρ1,σ2))
  (nx:∀c':FS c.an p ρ1 σ2,fl=.nx∨fl=.cont→∃m,m<n∧J m c'.s) (rt:∀(c':FS k p ρ1 σ2) f,Sx k T.F c'.g c'.h fl f→(∃r,fl=.ret r)→R (.ok f) c'.s):wpAny T.F.M p.A (letOwnedTupleGo t (.ref I) v) (λη s₁'=>wpAny T.F.M p.A (assign t p.env v) (λη s₂=>wpAny T.F.M p.A (execs body p.env) (λf s₃=>match f with
     |.next|.cont=>∃m,m<n∧J m s₃
     |.brk=>R (.ok .next) s₃
     |.ret v=>R (.ok (.ret v)) s₃) E s₂) E s₁') E c.s:=by
 refine kG ht hI (w0 (c.at'.bind ht hb hr λc4=>w0 ?_))
 have z:=hB c.an p ρb σ c4
 rw[e]at z
 refine z _ λc5 f r η=>?_
 cases fl with
 |nx=>cases r;exact nx c5 (.inl rfl)
 |cont=>cases r;exact nx c5 (.inr rfl)
 |ret rv=>
  have r':∃u,f=.ret u∧_:=r
  obtain⟨u,rfl,_⟩:=r'
  exact rt (c.back c5) _ (Sx.back (c:=c) r) ⟨rv,rfl⟩
theorem mJ(C:oY k p I u P St xs)(c:FS k p ρ σ)(M:oX c I u P St xs i)(hB:Oz false T body)(ht:Ws p.sc t=true){x:PyData}{ρb ρ1:A1}{σ2:Sg}{fl:Fl}(hx:xs[i]?=some x)(hb:Fa t x ρ=some ρb)(e:Dn T.I body p.sc ρb σ=some (fl,ρ1,σ2))
  (nx:∀c':FS k p ρ1 σ2,oX c' I u P St xs (i+1)→fl=.nx∨fl=.cont→∃m,m<n∧J m c'.s) (rt:∀(c':FS k p ρ1 σ2) f,Sx k T.F c'.g c'.h fl f→(∃r,fl=.ret r)→R (.ok f) c'.s):fA T.F.M p.A R t body p.env I J E n c.s:=
 have lt:=(dU hx).1
 C.W.elim λfp W=>W.1.item i c.s _ _ lt M.w λv h3 tk hp w kp=>
  have kp:∀b o,b≠I→c.h.get? b=some o→h3.get? b=some o:=λb o n e=>kp b o (λq=>n (Hd q)) e
  have M3:=M.next (t:=tk) C kp w
  V8 (c.gone M.pv C.nI (C.nr c M.w) h3 tk kp) hB ht (C.here _ _ w) ((M.item i v hp lt).elim λy q=>Cd (hx.symm.trans q.1)▸q.2) hb e (λc5 hk=>nx _ (M3.step C c5) hk) rt
end
end
section
open PySem PySem.W PySem.Calls PyProof.Rows
section
variable{T:Th}{k:An}{p:Pl T}{ρ ρ':A1}{σ σ':Sg}{I:Addr}{u:Value}{P:Nat→Value→Prop}{St:Nat→Heap→Prop}{xs:List PyData}{i:Nat}{R:Result→Shared→Prop}{t it:Expr}{body:List Stmt}{E:Value→Shared→Prop}{fl:Fl}{v:V}{kd:Kd}{x:Str}{pp:Pos}
noncomputable abbrev nW(T:Th)(p:Pl T)(t:Expr)(body:List Stmt)(x:PyData)(ρ:A1)(s:Sg):Option (Fl×A1×Sg):=o1 (Fa t x ρ) λρ=>Dn T.I body p.sc ρ s
inductive LB(k:An)(p:Pl T)(t:Expr)(body:List Stmt)(I:Addr)(u:Value)(P:Nat→Value→Prop)(St:Nat→Heap→Prop)(xs:List PyData)(z:Fl×A1×Sg):Nat→Shared→Prop
 |mk {ρ:A1} {σ:Sg} (c:FS k p ρ σ) (i:Nat) (M:oX c I u P St xs i) (l:List PyData) (hl:xs.drop i=l) (le:i≤xs.length) (hf:Ir (nW T p t body) l ρ σ=some z):LB k p t body I u P St xs z l.length c.s
theorem Hq{z z':Fl×A1×Sg}{g:Option (Fl×A1×Sg)}(h:(match z.1 with|.ret v=>some (.ret v,z.2)|_=>g)=some z'):(∃r,z.1=.ret r)∧z=z'∨(z.1=.nx∨z.1=.cont)∧g=some z':=by
 obtain⟨f,r⟩:=z
 cases f with
 |nx=>exact .inr ⟨.inl rfl,h⟩
 |cont=>exact .inr ⟨.inr rfl,h⟩
 |ret v=>exact .inl ⟨⟨v,rfl⟩,Cd h⟩
theorem LB.turn(C:oY k p I u P St xs)(hB:Oz false T body)(ht:Ws p.sc t=true){z:Fl×A1×Sg}(hR:∀(c':FS k p z.2.1 z.2.2) f,Sx k T.F c'.g c'.h z.1 f→R (.ok f) c'.s):∀n s,LB k p t body I u P St xs z n s→fA T.F.M p.A R t body p.env I (LB k p t body I u P St xs z) E n s
 |_,_,.mk c i M [] hl le hf=>by
  cases hf
  have e:i=xs.length:=Nat.le_antisymm le (List.drop_eq_nil_iff.mp hl)
  exact mK C c (e▸M) λc'=>hR c' _ rfl
 |_,_,.mk c i M (y::l) hl le hf=>by
  have hx:xs[i]?=some y:=(List.getElem?_drop (xs:=xs) (i:=i) (j:=0)).symm.trans (congrArg (·[0]?) hl)
  refine Ac λXz hXz=>?_
  obtain⟨f1,r1,e1,hf⟩:=Av hf
  obtain⟨ρb,hb,e1⟩:=A4 e1
  refine hXz ?_
  refine mJ (σ2:=r1.2) (ρ1:=r1.1) C c M hB ht hx hb e1 (λc' M' hk=>?_) λc' f r hk=>?_
  ·rcases Hq (z:=(f1,r1)) hf with⟨⟨r,q⟩,_⟩|⟨_,q⟩
   ·rcases hk with h|h<;>exact nomatch (show f1=_ from q).symm.trans h
   ·exact⟨_,Nat.lt_succ_self _,.mk c' (i+1) M' l ((List.drop_drop (l:=xs) (i:=1) (j:=i)).symm.trans (congrArg (List.drop 1) hl)) (dU hx).1 q⟩
  ·rcases Hq (z:=(f1,r1)) hf with⟨_,q⟩|⟨q,_⟩
   ·cases q;exact hR c' f r
   ·obtain⟨r,hk⟩:=hk
    rcases q with q|q<;>exact nomatch hk.symm.trans q
theorem FS.frzK(c:FS k p ρ σ){m:Mo T.F p.b σ'}(st:Nx c.toMo m){y:PyData}(hy:D9 y=true)(r:Lh (p.ex ρ) c.h m.g m.h (.d y,kd) u):∃c2:FS k p (frzK kd ρ) σ',c2.s=m.s∧(c2.an.n=m.h)∧Vw T.F c2.g c2.h (.d y) u∧I3 c2 u:=by
 have fin:∀{ρ'}(c2:FS k p ρ' σ'),rel c2.g (.d y) u→Vw T.F c2.g c2.h (.d y) u∧I3 c2 u:=λc2 r=>⟨.inl r,λb e=>by
  have v:=fO (y:=y) (a:=b) c2.inv (.inl (e▸r:rel c2.g (.d y) (.ref b))) hy
  replace r:Mb (D9 y) _ _ u:=r
  rw[hy]at r
  obtain⟨b',e',q⟩:=r
  cases e.symm.trans e'
  exact⟨v.1,c2.noFP q,v.2⟩⟩
 cases kd with
 |cl=>exact⟨c.nx m st,rfl,rfl,fin (c.nx m st) r⟩
 |fr=>exact(Cf.frz (c:=c.toCf) m st r).elim λm2 z=>⟨c.nx m2 z.2.1,z.1,congrArg Shared.heap z.1,fin (c.nx m2 z.2.1) z.2.2⟩
 |al x=>
  refine Ac λXz hXz=>?_
  obtain⟨⟨s,e,ns,hu⟩,o⟩:=r
  obtain⟨c2,e2,t,fz⟩:=(c.nx m st).frz1 x
  refine hXz ?_
  have eh:c2.h=m.h:=congrArg Shared.heap e2
  refine⟨c2,e2,eh,?_⟩
  cases s with
  |val=>exact absurd rfl ns
  |own=>exact fin c2 (fz _ _ e hu)
  |bor=>
   have ex:frzX x ρ=ρ:=by unfold frzX;rw[show lk x ρ=some (.bor,.d y)from e]
   show Vw T.F c2.g c2.h (.d y) u∧I3 c2 u
   revert c2
   show∀c2:FS k p (frzX x ρ) σ',_
   rw[ex]
   intro c2 _ _ _ eh
   have hu2:B4 p.env c2.h x u:=eh▸hu
   have o2:=c2.own e (λh=>nomatch h) hu2
   refine⟨.inr o2,λb eb=>?_⟩
   subst eb
   exact⟨o2.prv.im,λq=>q.elim (λq=>(c2.sep x .bor _ b e (λh=>nomatch h) hu2).1 q) λq=>q.elim λz q=>q.elim λw q=>(c2.sep z .own w b q.1 nofun q.2).2 rfl ⟨x,.bor,.d y,λn=>SK.noConfusion (Prod.mk.inj (Cd (e.symm.trans ((congrArg (lk · ρ) n).trans q.1)))).1,e,nofun,hu2⟩,o2.here⟩
noncomputable abbrev aO(p:Pl T)(Q:Flow→Shared→Prop)(r:Result)(s':Shared):Prop:=match r with
 |.ok f=>Q f s'
 |.error e=>cameBackBy T.F.M p.A p.env ff e s'
theorem V7(c:FS k p ρ σ)(hB:Oz false T body)(ht:Ws p.sc t=true){z:Fl×A1×Sg}{w:Value}{n:Heap}(it:ItU T.F p.A n c.g c.h xs u w)(hnew:∀I,n.get? I=none→¬Oy p.env I∧k.n.get? I=none)(S:I3 c u)(hf:Ir (nW T p t body) xs ρ σ=some z)
  {Q:Flow→Shared→Prop} (hQ:∀(c':FS k p z.2.1 z.2.2) f,Sx k T.F c'.g c'.h z.1 f→Q f c'.s):codeAny T.F.M p.A (.forLoop t w body [] p.env) (aO p Q) c.s:=by
 refine Ac λXz hXz=>?_
 obtain⟨I,fp,P,St,rfl,hIn,W,h0,_⟩:=it
 refine hXz ?_
 have C:oY k p I u P St xs:=⟨(hnew I hIn).1,(hnew I hIn).2,W.here,⟨fp,W.W,W.foot⟩⟩
 exact codeAny_forLoop_any _ (LB.turn C hB ht hQ) xs.length (.mk c 0 ⟨W.prv,h0,S,W.item⟩ xs rfl (Nat.zero_le _) hf)
end
end
section
open PySem PySem.W PySem.Calls PyProof.Rows
section
variable{T:Th}{k:An}{p:Pl T}{ρ ρ':A1}{σ σ':Sg}{u:Value}{xs:List PyData}{i:Nat}{t it e:Expr}{body:List Stmt}{v:V}{kd:Kd}{x:Str}{pp rp q:Pos}
theorem I3.nx{c:FS k p ρ σ}(S:I3 c u){m:Mo T.F p.b σ'}(st:Nx c.toMo m):I3 (c.nx m st) u:=λb e=>(S b e).2.2.elim λo ho=>⟨st.mut ho (S b e).1,λq=>(S b e).2.1 (q.imp id (Exists.imp λx=>Exists.imp λv q=>⟨q.1,c.nxb st q.2⟩)),o,st.keep b o ho (S b e).1 id⟩
theorem FS.isNew(c:FS k p ρ σ)(I:Addr)(e:c.h.get? I=none):¬Oy p.env I∧k.n.get? I=none:=⟨λq=>c.fresh e (.inl q),c.st.alive.fresh e⟩
noncomputable abbrev A64(p:Pl T)(t:Expr)(body:List Stmt)(u:Value)(s:Shared)(Q:Flow→Shared→Prop):Prop:=wpAny T.F.M p.A (pyIter u) (λw s=>codeAny T.F.M p.A (.forLoop t w body [] p.env) (aO p Q) s) ff s
theorem tN(c:FS k p ρ σ)(hB:Oz false T body)(ht:Ws p.sc t=true){m:Mo T.F p.b σ'}(st:Nx c.toMo m){y:PyData}(r:Lh (p.ex ρ) c.h m.g m.h (.d y,kd) u):Ci false (c.nx m st) (o1 (Cx y) λxs=>Ir (nW T p t body) xs (frzK kd ρ) σ') (A64 p t body u m.s):=.vo λxs hx=>.of λfl ρ' σ2 hf Q hQ=>by
 obtain⟨y',e1,hy⟩:=Q0 (v:=.d y) hx
 cases e1
 obtain⟨c2,e2,_,vw,S⟩:=c.frzK st hy r
 have g:=bH T.ok p.hA vw
 rw[show Nw (.d y)=some xs from hx]at g
 have g:∀Q:Value→Shared→Prop,_:=g
 exact(e2)▸g _ λm3 w st3 it=>V7 (c:=c2.nx m3 st3) hB ht it c2.isNew (S.nx st3) hf λc' f r=>hQ c' f r λh=>absurd h Bool.false_ne_true
theorem Xr{z:Str×Expr×Pos}(h:aX it=some z):z.1="range"∧∃q,it=.Call (.Name z.1 q) [z.2.1] [] z.2.2:=by
 revert h
 refine Xv.el (P:=λit w=>(match w with|.call f args ks r=>o1 (cX f ks) λf=>o1 (sole args) λe=>some (f,e,r)|_=>none)=some z→z.1="range"∧∃q,it=.Call (.Name z.1 q) [z.2.1] [] z.2.2) (λη η η h=>Ao h) (λη η h=>Ao h) (λη η η h=>Ao h) (λη η η h=>Ao h) (λη η η h=>Ao h) (λη η h=>Ao h) (λη η η h=>Ao h) (λf args ks r h=>?_) (λη h=>Ao h) it
 obtain⟨f',e1,h2⟩:=A4 (show o1 (cX f ks) _=_ from h)
 obtain⟨e,e2,h3⟩:=A4 h2
 have ez:=Cd h3
 subst ez
 cases I5 e2
 obtain⟨hk,e4⟩:=B7 e1
 cases List.isEmpty_iff.mp hk
 refine Ac λXz hXz=>?_
 obtain⟨f2,e3,e5⟩:=A4 e4
 obtain⟨hq,e6⟩:=B7 e5
 obtain⟨q,rfl⟩:=Bq e3
 have ef:=Cd e6
 subst ef
 refine hXz ?_
 exact⟨Bm.mp hq,q,rfl⟩
theorem tL(c:FS k p ρ σ)(hB:Oz false T body)(ht:Ws p.sc t=true)(hg:Nz p.sc "range"=true):Fp false c (Mine.b1 ((ev T.I e).val p.sc ρ σ) λv η s=>o1 (H6 v) λxs=>Ir (nW T p t body) xs ρ s) (exec (.For t (.Call (.Name "range" q) [e] [] rp) body [] pp) p.env):=.of λfl ρ' σ2 h Q hQ=>by
 refine Ac λXz hXz=>?_
 obtain⟨v,kd,σ1,e1,h⟩:=Fm h
 obtain⟨xs,e2,hf⟩:=A4 h
 refine hXz ?_
 have g:=lV (p:=rp) (q:=q) c.toCf (sx e).toSEv (sx e).inn (Ga hg)
 rw[show Mine.b1 ((ev T.I e).val p.sc ρ σ) (λv η s=>o1 (H6 v) λxs=>some (xs,s))=some (xs,σ1)from by rw[e1];show o1 (H6 v) _=_;rw[e2];rfl]at g
 exact wpAny_For (g _ λm u st r=>(bD (x:=p.ex ρ) r) _ λm3 w st3 it=>V7 (c:=c.nx m3 (t0 st st3)) hB ht it (c.nx m st).isNew (λb e=>nomatch e) hf λc' f r=>hQ c' f r λh=>absurd h Bool.false_ne_true) λη=>rfl
end
end
section
open PySem PySem.W PySem.Calls PyProof.Rows
section
variable{T:Th}{k:An}{p:Pl T}{ρ ρ':A1}{σ σ':Sg}{u:Value}{i j n:Nat}{I P0:Addr}{R:Result→Shared→Prop}{t it e:Expr}{body:List Stmt}{E:Value→Shared→Prop}{v:V}{kd:Kd}{x:Str}{pp rp q:Pos}
theorem jV{r:Option PyData}(h:jW j i σ=some r):∃xs,σ[j]?=some (.lst xs)∧xs[i]?=r.map V.d:=by
 unfold jW at h
 cases e:σ[j]? with
 |none=>rw[e]at h;exact Ao h
 |some mo=>
  rw[e]at h
  cases mo with
  |lst xs=>
   refine⟨xs,rfl,?_⟩
   replace h:(match xs[i]? with|none=>some none|some (.d x)=>some (some x)|some (.o _)=>none)=some r:=h
   cases e2:xs[i]? with
   |none=>rw[e2]at h;cases h;rfl
   |some w=>
    rw[e2]at h
    cases w with
    |d y=>cases h;rfl
    |o=>exact Ao h
  |_=>exact Ao h
structure MI(c:FS k p ρ σ)(I P0:Addr)(j i:Nat):Prop where
 pv:Hi T.F c.g c.h I
 it:c.h.IsListIter I P0 i
 lt:j<c.g.n
 at':c.g.p j=P0
theorem aW{h:Heap}(H:h.IsListIter I P0 i):∃o n,h.get? I=some o∧o.cls=.type n∧n∈Ec:=H.elim λo q=>⟨o,_,q.1,q.2.1,.head _⟩
inductive LM(k:An)(p:Pl T)(t:Expr)(body:List Stmt)(I P0:Addr)(j:Nat)(z:Fl×A1×Sg):Nat→Shared→Prop
 |mk {ρ:A1} {σ:Sg} (c:FS k p ρ σ) (i n:Nat) (M:MI c I P0 j i) (hf:Nn T.I (nW T p t body) j n i ρ σ=some z):LM k p t body I P0 j z n c.s
theorem MI.nr{c:FS k p ρ σ}(M:MI c I P0 j i)(nf:¬Oy p.env I):¬Wb p.env ρ c.h I:=λq=>q.elim nf λq=>q.elim λx q=>q.elim λs q=>q.elim λv q=>U6 (c.own q.1 q.2.1 q.2.2) (aW M.it)
theorem MI.np{c:FS k p ρ σ}(M:MI c I P0 j i)(nf:¬Oy p.env I):¬FP p.env ρ c.h I:=λq=>M.nr nf (q.imp id λq=>q.imp λx q=>q.elim λv q=>⟨.own,v,q.1,(λh=>nomatch h),q.2⟩)
theorem LM.one(nf:¬Oy p.env I)(nI:k.n.get? I=none)(hB:Oz false T body)(ht:Ws p.sc t=true){z:Fl×A1×Sg}(hR:∀(c':FS k p z.2.1 z.2.2) f,Sx k T.F c'.g c'.h z.1 f→R (.ok f) c'.s)(c:FS k p ρ σ)(i:Nat)(M:MI c I P0 j i):∀n,Nn T.I (nW T p t body) j n i ρ σ=some z→fA T.F.M p.A R t body p.env I (LM k p t body I P0 j z) E n c.s
 |0,hf=>Ao hf
 |n+1,hf=>by
  refine Ac λXz hXz=>?_
  obtain⟨r,hl,hf⟩:=A4 hf
  obtain⟨xs,ek,ex⟩:=jV hl
  obtain⟨hlen,vs,nn,ho,al⟩:=c.inv.obj j _ ek
  refine hXz ?_
  rw[M.at']at ho
  have hT:c.h.IsList P0 vs:=⟨_,ho,rfl,nn,rfl⟩
  cases r with
  |none=>
   have hv:vs[i]?=none:=Array.getElem?_eq_none_iff.mpr (Ag (Nat.le_of_eq (B6 al)) (List.getElem?_eq_none_iff.mp ex))
   cases hf
   exact wpAny_pyNext_list_end (s:=c.s) p.hA.handled M.it hT hv λh3 hx=>wpAny_execs_nil (hR (c.gone M.pv nI (M.nr nf) h3 c.t hx) _ rfl)
  |some y=>
   refine Ac λXz hXz=>?_
   obtain⟨v,hv,hr⟩:=Sm al ex
   obtain⟨f1,r1,e1,hf⟩:=Av hf
   obtain⟨ρb,hb,e1⟩:=A4 e1
   refine hXz ?_
   refine wpAny_pyNext_list_item (s:=c.s) M.it hT hv λh3 it3 hs3=>?_
   let c3:=c.gone M.pv nI (M.nr nf) h3 c.t (C0 hs3)
   have M3:MI c3 I P0 j (i+1):=⟨M.pv.priv (it3.elim λo q=>⟨o,q.1⟩),it3,M.lt,M.at'⟩
   refine V8 (σ2:=r1.2) (ρ1:=r1.1) c3 hB ht (aW it3) hr hb e1 (λc5 hk=>?_) λc' f r hk=>?_
   ·refine Ac λXz hXz=>?_
    rcases Hq (z:=(f1,r1)) hf with⟨⟨r,q⟩,_⟩|⟨_,q⟩
    ·refine hXz ?_
     rcases hk with h|h<;>exact nomatch (show f1=_ from q).symm.trans h
    ·refine hXz ?_
     have M5:MI (c3.back c5) I P0 j (i+1):=⟨M3.pv.step c5.st (M3.np nf),it3.elim λo z=>⟨o,c5.st.keep I o z.1 M3.pv.im (M3.np nf),z.2⟩,Nat.lt_of_lt_of_le M.lt c5.st.n,((c5.st.p j M.lt).1).trans M.at'⟩
     exact⟨n,Nat.lt_succ_self n,.mk (c3.back c5) (i+1) n M5 q⟩
   ·rcases Hq (z:=(f1,r1)) hf with⟨_,q⟩|⟨q,_⟩
    ·cases q;exact hR c' f r
    ·obtain⟨r,hk⟩:=hk
     rcases q with q|q<;>exact nomatch hk.symm.trans q
theorem LM.turn(nf:¬Oy p.env I)(nI:k.n.get? I=none)(hB:Oz false T body)(ht:Ws p.sc t=true){z:Fl×A1×Sg}(hR:∀(c':FS k p z.2.1 z.2.2) f,Sx k T.F c'.g c'.h z.1 f→R (.ok f) c'.s)(n:Nat)(s:Shared)(H:LM k p t body I P0 j z n s):fA T.F.M p.A R t body p.env I (LM k p t body I P0 j z) E n s:=
 LM.rec (motive:=λn s η=>fA T.F.M p.A R t body p.env I (LM k p t body I P0 j z) E n s) (λc i n M hf=>LM.one nf nI hB ht hR c i M n hf) H
theorem tM(c:FS k p ρ σ)(hB:Oz false T body)(ht:Ws p.sc t=true){m:Mo T.F p.b σ'}(st:Nx c.toMo m)(r:Lh (p.ex ρ) c.h m.g m.h (.o j,kd) u):Ci false (c.nx m st) (Nn T.I (nW T p t body) j 100 0 (frzK kd ρ) σ') (A64 p t body u m.s):=.of λfl ρ' σ2 hf Q hQ=>by
 cases kd with
 |fr=>exact r.1.elim
 |al y=>exact r.2.elim
 |cl=>
  refine Ac λXz hXz=>?_
  obtain⟨hlt,rfl⟩:j<m.g.n∧u=.ref (m.g.p j):=r
  obtain⟨r0,hl,_⟩:=A4 hf
  obtain⟨xs,ek,_⟩:=jV hl
  obtain⟨_,vs,nn,ho,_⟩:=m.inv.obj j _ ek
  refine hXz ?_
  have hI:=Heap.get?_push_size m.h (o:={cls:=.type "list_iterator",data:=.fields #[.ref (m.g.p j),.int 0 0]}) rfl
  let c2:=(c.nx m st).nx (m.push _) (Ar {cls:=.type "list_iterator",data:=.fields #[.ref (m.g.p j),.int 0 0]})
  have M:MI c2 m.h.objs.size (m.g.p j) j 0:=⟨.new m.inv (Ap _) ⟨_,hI⟩,⟨_,hI,rfl,rfl⟩,hlt,rfl⟩
  have nw:=(c.nx m st).isNew _ (Ap _)
  exact wpAny_pyIter_list (s:=m.s) ⟨_,ho,rfl,nn,rfl⟩ (codeAny_forLoop_any _ (LM.turn nw.1 nw.2 hB ht λc' f r=>hQ c' f r λh=>absurd h Bool.false_ne_true) 100 (.mk c2 0 100 M hf))
end
end
section
open PySem PySem.W PySem.Calls PyProof.Rows
section
variable{T:Th}{k:An}{p:Pl T}{ρ ρ':A1}{σ σ':Sg}{u:Value}{i j n:Nat}{R:Result→Shared→Prop}{t it e:Expr}{body:List Stmt}{E:Value→Shared→Prop}{v:V}{kd:Kd}{x:Str}{pp rp q:Pos}
theorem xQ{α β S S':Type}{o:Option (RV×S)}{f:V→Kd→S→Option (α×S')}{g:α→S'→Option β}:b2 (b1 o f) g=b1 o λv k s=>b2 (f v k s) g:=by cases o<;>rfl
theorem yT{els:List Stmt}(hB:Oz false T body):SS false T (.For t it body els pp):=λk p ρ σ c=>.vi λhe=>by
 cases List.isEmpty_iff.mp he
 refine .vi λht=>?_
 show Fp false c (Mine.b2 (Oa T.I it p.sc ρ σ) λv r=>uH T.I (nW T p t body) v r.1 r.2) _
 unfold Oa
 cases hr:aX it with
 |some z=>
  obtain⟨x,e,rp⟩:=z
  obtain⟨e1,q,rfl⟩:=Xr hr
  subst e1
  show Fp false c (Mine.b2 (iB (Nz p.sc "range") _) _) _
  cases hg:Nz p.sc "range" with
  |false=>exact trivial
  |true=>
   have g:=tL (q:=q) (rp:=rp) (pp:=pp) (e:=e) c hB ht hg
   have z:Mine.b2 (Mine.b1 ((ev T.I e).val p.sc ρ σ) λv η s=>Mine.b2 (T.I.pl rp (H6 v) s) λxs s=>some (V.d (.list xs),ρ,s)) (λv r=>uH T.I (nW T p t body) v r.1 r.2)=Mine.b1 ((ev T.I e).val p.sc ρ σ) λv η s=>o1 (H6 v) λxs=>Ir (nW T p t body) xs ρ s:=by
    refine xQ.trans (congrArg (Mine.b1 _) (funext λv=>funext λkd=>funext λs=>?_))
    cases H6 v<;>rfl
   exact z▸g
 |none=>
  show Fp false c (Mine.b2 (Mine.b1 ((ev T.I it).val p.sc ρ σ) λv k s=>some (v,frzK k ρ,s)) λv r=>uH T.I (nW T p t body) v r.1 r.2) _
  rw[xQ]
  refine(sx (T:=T) it).fld.elim (λhs=>Ci.b1 (V:=A64 p t body) (λQ z=>wpAny_For z (hs _)) ((sx it).val _ σ c.toCf) λv kd σ' m u st r=>?_) λhn=>by rw[(hn _ _ _).2];exact trivial
  cases v with
  |d y=>exact tN c hB ht st r
  |o n=>exact tM c hB ht st r
noncomputable abbrev whl(T:Th)(p:Pl T)(x:Str)(q:Pos)(body:List Stmt):Nat→A1→Sg→Option (Fl×A1×Sg):=Uf (λρ s=>o1 (Nh x ρ) λv=>T.I.pb q (Qk v) s) (λρ s=>Dn T.I body p.sc ρ s)
inductive LW(k:An)(p:Pl T)(x:Str)(q:Pos)(body:List Stmt)(z:Fl×A1×Sg):Nat→Shared→Prop
 |mk {ρ:A1} {σ:Sg} (c:FS k p ρ σ) (n:Nat) (hf:whl T p x q body n ρ σ=some z):LW k p x q body z n c.s
noncomputable def B05(M:Model)(A:Around)(R:Result→Shared→Prop)(t:Expr)(body:List Stmt)(env:Env)(J:Nat→Shared→Prop)(E:Value→Shared→Prop)(n:Nat)(s:Shared):Prop:=
 wpAny M A (isTrue t env (eval t env)) (λb s₂=>
       if b then wpAny M A (execs body env) (λf s₃=>match f with
        |.next|.cont=>∃m,m<n∧J m s₃
        |.brk=>R (.ok .next) s₃
        |.ret v=>R (.ok (.ret v)) s₃) E s₂
       else wpAny M A (execs [] env) (λf s₃=>R (.ok f) s₃) E s₂) E s
theorem fJ(c:FS k p ρ σ)(hB:Oz false T body){z:Fl×A1×Sg}{qq:Pos}(hR:∀(c':FS k p z.2.1 z.2.2) f,Sx k T.F c'.g c'.h z.1 f→R (.ok f) c'.s){n:Nat}(hf:b2 (Dn T.I body p.sc ρ σ) (λfl r=>match fl with|.ret v=>some (.ret v,r)|_=>whl T p x qq body n r.1 r.2)=some z):wpAny T.F.M p.A (execs body p.env) (λf s₃=>match f with
      |.next|.cont=>∃m,m<n+1∧LW k p x qq body z m s₃
      |.brk=>R (.ok .next) s₃
      |.ret v=>R (.ok (.ret v)) s₃) E c.s:=by
 obtain⟨f1,r1,e1,hf⟩:=Av hf
 have y:=hB k p ρ σ c
 rw[e1]at y
 refine w0 (y _ λc' f r η=>?_)
 have lr:=Hq (z:=(f1,r1)) hf
 clear hf y e1
 cases f1 with
 |nx=>cases r;exact⟨n,Nat.lt_succ_self n,.mk c' n (lr.elim (λh=>h.1.elim λη h=>nomatch h) And.right)⟩
 |cont=>cases r;exact⟨n,Nat.lt_succ_self n,.mk c' n (lr.elim (λh=>h.1.elim λη h=>nomatch h) And.right)⟩
 |ret rv=>
  have q:(Fl.ret rv,r1)=z:=lr.elim And.right λh=>h.1.elim (λh=>nomatch h) λh=>nomatch h
  subst q
  have r':∃u,f=.ret u∧_:=r
  obtain⟨u,rfl,_⟩:=r'
  exact hR c' _ r
theorem LW.one{qq:Pos}(hk:Et p.sc x=true)(hB:Oz false T body){z:Fl×A1×Sg}(hR:∀(c':FS k p z.2.1 z.2.2) f,Sx k T.F c'.g c'.h z.1 f→R (.ok f) c'.s)(c:FS k p ρ σ):∀n,whl T p x qq body n ρ σ=some z→B05 T.F.M p.A R (.Name x rp) body p.env (LW k p x qq body z) E n c.s
 |0,hf=>Ao hf
 |n+1,hf=>by
  refine Ac λXz hXz=>?_
  obtain⟨b,s1,e1,hf⟩:=Av hf
  obtain⟨v,ev,e1⟩:=A4 e1
  obtain⟨u,hu,hs⟩:=c.val hk (G6 ev)
  refine hXz ?_
  have g:Go p.A c.toMo bP (o1 (Qk v) λc=>some (c,σ)) (standAt rp >>=λη=>holding [u] (truthy u)):=.at' (.hold (Ie T.ok (qK hs)))
  simp only[show o1 (Qk v) (λc=>some (c,σ))=some (b,s1)from e1]at g
  refine w0 (wpAny_bind (G7 c.toCf (F5 p.hE hk) hu (g _ λm u st r=>?_)))
  have r:b=u:=r
  subst r
  cases b with
  |false=>cases hf;exact wpAny_execs_nil (hR (c.nx m st) _ rfl)
  |true=>exact fJ (c.nx m st) hB hR hf
theorem LW.turn{qq:Pos}(hk:Et p.sc x=true)(hB:Oz false T body){z:Fl×A1×Sg}(hR:∀(c':FS k p z.2.1 z.2.2) f,Sx k T.F c'.g c'.h z.1 f→R (.ok f) c'.s)(n:Nat)(s:Shared)(H:LW k p x qq body z n s):B05 T.F.M p.A R (.Name x rp) body p.env (LW k p x qq body z) E n s:=
 LW.rec (motive:=λn s η=>B05 T.F.M p.A R (.Name x rp) body p.env (LW k p x qq body z) E n s) (λc n hf=>LW.one hk hB hR c n hf) H
theorem hV{els:List Stmt}(hB:Oz false T body):SS false T (.While t body els pp):=λk p ρ σ c=>.vi λhe=>.vo λx hx=>.vi λhk=>by
 cases List.isEmpty_iff.mp he
 obtain⟨q,rfl⟩:=Bq hx
 exact .of λfl ρ' σ' hf Q hQ=>wpAny_While (codeAny_whileLoop (R:=aO p Q) (LW k p x pp body (fl,ρ',σ')) (LW.turn (R:=aO p Q) (qq:=pp) hk hB λc' f r=>hQ c' f r λh=>absurd h Bool.false_ne_true) 100 (.mk c 100 hf))
theorem C92{st:Stmt}{c:FS k p ρ σ}{b:Bool}(h:P9 T.I st p.sc ρ σ=none):Fp b c (P9 T.I st p.sc ρ σ) (exec st p.env):=by rw[h];exact trivial
mutual
theorem ss(hio:Jd T.F T.d T.w):∀st:Stmt,SS false T st
 |.Pass _=>qF
 |.Continue _=>qH
 |.Return _ _=>yS
 |.If _ b e _=>w7 (sss hio b) (sss hio e)
 |.Assign ..=>yU
 |.Expr ..=>qG hio
 |.For _ _ b _ _=>yT (sss hio b)
 |.While _ b _ _=>hV (sss hio b)
 |.FunctionDef ..=>λη η η η η=>trivial
 |.AsyncFunctionDef ..=>λη η η η η=>trivial
 |.ClassDef ..=>λη η η η η=>trivial
 |.Delete ..=>λη η η η η=>trivial
 |.TypeAlias ..=>λη η η η η=>trivial
 |.AugAssign ..=>λη η η η η=>trivial
 |.AnnAssign ..=>λη η η η η=>trivial
 |.AsyncFor ..=>λη η η η η=>trivial
 |.With ..=>λη η η η η=>trivial
 |.AsyncWith ..=>λη η η η η=>trivial
 |.Match ..=>λη η η η η=>trivial
 |.Raise ..=>λη η η η η=>trivial
 |.Try ..=>λη η η η η=>trivial
 |.TryStar ..=>λη η η η η=>trivial
 |.Assert ..=>λη η η η η=>trivial
 |.Import ..=>λη η η η η=>trivial
 |.ImportFrom ..=>λη η η η η=>trivial
 |.Global ..=>λη η η η η=>trivial
 |.Nonlocal ..=>λη η η η η=>trivial
 |.Break ..=>λη η η η η=>trivial
theorem sss(hio:Jd T.F T.d T.w):∀ss:List Stmt,Oz false T ss
 |[]=>hY
 |st::r=>Zn (ss hio st) (sss hio r)
end
mutual
theorem si:∀st:Stmt,ioS st=true→SS true T st
 |.If _ b e _,h=>have h:=Ab h;w7 (sis b h.1) (sis e h.2)
 |.Assign ..,h=>qI h
 |.Pass ..,h=>Bool.noConfusion h
 |.Continue ..,h=>Bool.noConfusion h
 |.Return ..,h=>Bool.noConfusion h
 |.Expr ..,h=>Bool.noConfusion h
 |.For ..,h=>Bool.noConfusion h
 |.While ..,h=>Bool.noConfusion h
 |.FunctionDef ..,h=>Bool.noConfusion h
 |.AsyncFunctionDef ..,h=>Bool.noConfusion h
 |.ClassDef ..,h=>Bool.noConfusion h
 |.Delete ..,h=>Bool.noConfusion h
 |.TypeAlias ..,h=>Bool.noConfusion h
 |.AugAssign ..,h=>Bool.noConfusion h
 |.AnnAssign ..,h=>Bool.noConfusion h
 |.AsyncFor ..,h=>Bool.noConfusion h
 |.With ..,h=>Bool.noConfusion h
 |.AsyncWith ..,h=>Bool.noConfusion h
 |.Match ..,h=>Bool.noConfusion h
 |.Raise ..,h=>Bool.noConfusion h
 |.Try ..,h=>Bool.noConfusion h
 |.TryStar ..,h=>Bool.noConfusion h
 |.Assert ..,h=>Bool.noConfusion h
 |.Import ..,h=>Bool.noConfusion h
 |.ImportFrom ..,h=>Bool.noConfusion h
 |.Global ..,h=>Bool.noConfusion h
 |.Nonlocal ..,h=>Bool.noConfusion h
 |.Break ..,h=>Bool.noConfusion h
theorem sis:∀ss:List Stmt,l9 ss=true→Oz true T ss
 |[],_=>hY
 |st::r,h=>have h:=Ab h;Zn (si st h.1) (sis r h.2)
end
end
end
section
open PySem PySem.W PySem.Calls PyProof.Rows
theorem Uv{x:Str}:∀{l:List Str},Xu x l=false→x∉l
 |[],_=>(λh=>absurd h List.not_mem_nil)
 |y::r,h=>λhm=>by
  replace h:(match sq x y with|true=>true|false=>Xu x r)=false:=h
  cases e:sq x y<;>rw[e]at h
  ·rcases Mw hm with q|q
   ·rw[q,Mk]at e;exact Bool.noConfusion e
   ·exact Uv h q
  ·exact Bool.noConfusion h
noncomputable def jB:List Str→Bool
 |[]=>true
 |x::r=>!Xu x r&&jB r
noncomputable def mP(fd:Fd):Bool:=
 (match fd.scope.kind with|.function=>true|_=>false)&&!fd.scope.isGenerator&&!fd.scope.isCoroutine &&
 (match lk "__debug__" fd.scope.names with|none=>true|some _=>false)&&
 fd.scope.names.all (λp=>match p.2 with|.local=>true|.cell=>true|.globalImplicit=>true|_=>false)&&
 jB fd.params&&fd.params.all (λx=>Et fd.scope x)
structure D10(F:Cc)(f:Str)(fd:Fd)(fda:FuncData):Prop where
 obj:∃o,F.h₀.get? (F.FV f)=some o∧o.data=.func fda
 scope:fda.scope=fd.scope
 body:fda.body=.stmts fd.body
 closure:fda.closure=[]
 globals:fda.globals=mainGlobals
 builtins:fda.builtins=builtinsNs
 code:F.h₀.CodeRec fda.code fda.qualname
 binds:∀rs ρ,Gk fd.params fd.dfl rs=some ρ→∀us:List Value,us.length=rs.length→∃vs:List Value,A6 (λ(p:Str×SK×V) v=>p.2.1=.val∧∀g:Gh,rel g p.2.2 v) (ρ.drop us.length) vs∧
  ∀s:Shared,(∀b o,F.h₀.get? b=some o→s.heap.get? b=some o)→BindsTo s fda ⟨us,[]⟩ (fd.params.zip (us++vs))
structure Qh(F:Cc):Prop where
 nolim:F.h₀.NoLimit
 ok:∀f fd,Mine.fn f=some fd→mP fd=true
 at':∀f fd,Mine.fn f=some fd→∃fda,D10 F f fd fda
theorem Lu:∀{l:List Str},jB l=true→l.Nodup
 |[],_=>List.nodup_nil
 |x::r,h=>
  have h:=Ab h
  List.nodup_cons.mpr ⟨Uv ((Bool.not_eq_true' _).mp h.1),Lu h.2⟩
theorem Jc{x:Str}:∀(names:List (Str×NameKind))(n:Nat)(acc:List (Str×Addr)),((x,NameKind.cell)∈names∨∃c,acc.lookup x=some c)→∃c,(cellsFrom n names acc).lookup x=some c
 |[],n,acc,h=>by
  rcases h with h|h
  ·cases h
  ·exact h
 |(y,k)::r,n,acc,h=>by
  unfold cellsFrom
  split
  ·rename_i hk
   refine Jc r (n+1) _ ?_
   by_cases q:x=y
   ·subst q;exact .inr ⟨n,by simp[List.lookup_cons]⟩
   ·rcases h with h|⟨c,h⟩
    ·rcases Mw h with e|h
     ·cases e;exact absurd rfl q
     ·exact .inl h
    ·exact .inr ⟨c,by simp only[List.lookup_cons,nS q];exact h⟩
  ·rename_i hk
   refine Jc r n _ ?_
   rcases h with h|h
   ·refine Ac λXz hXz=>?_
    rcases Mw h with e|h
    ·refine hXz ?_
     cases e;exact absurd rfl hk
    ·refine hXz ?_
     exact .inl h
   ·exact .inr h
theorem Qa{kindOf:Str→Option NameKind}{x:Str}:∀(l:List (Str×Value))(m:Str→Option Value),(∀p∈l,p.1≠x)→bindL kindOf l m x=m x
 |[],m,_=>rfl
 |(n,v)::r,m,h=>by
  unfold bindL
  rw[Qa r _ λp hp=>h p (.tail _ hp)]
  have:n≠x:=h (n,v) (.head _)
  split
  ·simp[Ne.symm this]
  ·rfl
theorem Vr{kindOf:Str→Option NameKind}{x:Str}{u:Value}(hk:kindOf x=some .local):∀(l:List (Str×Value))(m:Str→Option Value),(l.map (·.1)).Nodup→(x,u)∈l→bindL kindOf l m x=some u
 |[],m,_,h=>by cases h
 |(n,v)::r,m,nd,h=>by
  simp only[List.map_cons,List.nodup_cons]at nd
  unfold bindL
  rcases Mw h with e|h
  ·cases e
   rw[Qa r _ λp hp e=>nd.1 (List.mem_map.mpr ⟨p,hp,e⟩),if_pos hk]
   simp
  ·exact Vr hk r _ nd.2 h
theorem Qb{kindOf:Str→Option NameKind}{x:Str}:∀(l:List (Str×Value))(m:Str→Option Value),(∀p∈l,p.1≠x)→bindC kindOf l m x=m x
 |[],m,_=>rfl
 |(n,v)::r,m,h=>by
  unfold bindC
  rw[Qb r _ λp hp=>h p (.tail _ hp)]
  have:n≠x:=h (n,v) (.head _)
  split
  ·rfl
  ·simp[Ne.symm this]
theorem Vt{kindOf:Str→Option NameKind}{x:Str}{u:Value}(hk:kindOf x=some .cell):∀(l:List (Str×Value))(m:Str→Option Value),(l.map (·.1)).Nodup→(x,u)∈l→bindC kindOf l m x=some u
 |[],m,_,h=>by cases h
 |(n,v)::r,m,nd,h=>by
  simp only[List.map_cons,List.nodup_cons]at nd
  unfold bindC
  rcases Mw h with e|h
  ·cases e
   rw[Qb r _ λp hp e=>nd.1 (List.mem_map.mpr ⟨p,hp,e⟩),if_neg (by rw[hk];decide)]
   simp
  ·exact Vt hk r _ nd.2 h
noncomputable def B59:Kd→SK
 |.al _=>.bor
 |_=>.val
theorem Fb:∀(ps:List Str)(ds:List V)(rs:List RV)(ρ:A1),Gk ps ds rs=some ρ→ρ.map (·.1)=ps∧∃ρ1 ρ2,ρ=ρ1++ρ2∧A6 (λ(p:Str×SK×V)(r:RV)=>p.2=(B59 r.2,r.1)) ρ1 rs
 |[],ds,[],ρ,h=>by cases h;exact⟨rfl,[],[],rfl,.nil⟩
 |[],ds,_::_,ρ,h=>Ao h
 |p::ps,ds,(v,k)::rs,ρ,h=>by
  obtain⟨ρ',e,h⟩:=A4 h
  cases h
  obtain⟨a,ρ1,ρ2,rfl,al⟩:=Fb ps ds rs ρ' e
  refine⟨by rw[List.map_cons,a],(p,_,v)::ρ1,ρ2,rfl,.cons ?_ al⟩
  cases k<;>rfl
 |p::ps,ds,[],ρ,h=>by
  refine Ac λXz hXz=>?_
  obtain⟨_,h⟩:=B7 h
  obtain⟨d,_,h⟩:=A4 h
  obtain⟨ρ',e,h⟩:=A4 h
  refine hXz ?_
  cases h
  exact⟨by simp only[List.map_cons,(Fb ps ds [] ρ' e).1],[],_,rfl,.nil⟩
theorem vO{F:Cc}{g:Gh}{h:Heap}{ρ:A1}{ws:List Value}(al:A6 (λ(p:Str×SK×V) u=>Ef F g h p.2.1 p.2.2 u) ρ ws){x:Str}{s:SK}{v:V}:lk x ρ=some (s,v)→∃u,(x,u)∈(ρ.map (·.1)).zip ws∧Ef F g h s v u:=by
 induction al with
 |nil=>exactλe=>Ao e
 | @cons a b as bs h1 h2 ih=>
  obtain⟨y,s',v'⟩:=a
  intro e
  replace e:(match sq x y with|true=>some (s',v')|false=>lk x as)=some (s,v):=e
  cases q:sq x y<;>rw[q]at e
  ·exact(ih e).imp λu z=>⟨.tail _ z.1,z.2⟩
  ·cases e
   exact⟨b,Bm.mp q▸.head _,h1⟩
theorem bU{k:Nat}{A:Around}(h:Rc (k+1) A)(env:Env):Rm k (A.deeper env):=
 ⟨h.handled,by have:=h.depth;show A.depth+1+4*k+402<recursionLimit;omega,by have:=h.units;show A.units+3+64*k+402<cLine;omega⟩
end
section
open PySem PySem.W PySem.Calls PyProof.Rows
theorem aP{sc:Scope}{x:Str}(h:Et sc x=true):lk x sc.names=some .local∨lk x sc.names=some .cell:=by
 replace h:(match lk x sc.names with|some .local=>true|some .cell=>true|_=>false)=true:=h
 cases e:lk x sc.names with
 |none=>rw[e]at h;exact Bool.noConfusion h
 |some k=>rw[e]at h;cases k<;>first|exact .inl rfl|exact .inr rfl|exact Bool.noConfusion h
structure FdS(fd:Fd):Prop where
 kind:fd.scope.kind=.function
 gen:fd.scope.isGenerator=false
 co:fd.scope.isCoroutine=false
 debug:lk "__debug__" fd.scope.names=none
 names:∀x k,lk x fd.scope.names=some k→knd k=k
 nd:fd.params.Nodup
 par:∀x∈fd.params,Et fd.scope x=true
theorem A69{fd:Fd}(h:mP fd=true):FdS fd:=by
 have h1:=Ab h
 have h2:=Ab h1.1
 have h3:=Ab h2.1
 have h4:=Ab h3.1
 have h5:=Ab h4.1
 have h6:=Ab h5.1
 refine⟨?_,(Bool.not_eq_true' _).mp h6.2,(Bool.not_eq_true' _).mp h5.2,?_,λx k e=>?_,Lu h2.2,Be h1.2⟩
 ·have:=h6.1
  revert this
  cases fd.scope.kind<;>first|exactλη=>rfl|exactλh=>Bool.noConfusion h
 ·have:=h4.2
  revert this
  cases lk "__debug__" fd.scope.names
  ·exactλη=>rfl
  ·exactλh=>Bool.noConfusion h
 ·have:=Be h3.2 _ (Fr e)
  revert this
  cases k<;>first|exactλη=>rfl|exactλh=>Bool.noConfusion h
theorem oZ{α β:Type}{l:List α}{us vs:List β}{p:α×β}:p∈l.zip us→p∈l.zip (us++vs):=by
 induction l generalizing us with
 |nil=>exactλh=>absurd h List.not_mem_nil
 |cons a l ih=>
  cases us with
  |nil=>exactλh=>absurd h List.not_mem_nil
  |cons u us=>exactλh=>(Mw h).elim (λe=>e▸.head _) λh=>.tail _ (ih h)
section
variable{T:Th}{b:Shared}{σ:Sg}
set_option tactic.hygienic true in
set_option backward.match.sparseCases true in
theorem xH(hX:Qh T.F){f:Str}{fd:Fd}(hf:fn f=some fd){A:Around}{m:Mo T.F b σ}{rs:List RV}{us:List Value}{ρ ρ0:A1}(hb:Gk fd.params fd.dfl rs=some ρ0)(hnm:ρ.map (·.1)=ρ0.map (·.1))(hdr:ρ.drop us.length=ρ0.drop us.length)(hA:Rc (T.d+1) A)
  (hl:us.length=rs.length) (hsl:A6 (λ(p:Str×SK×V) u=>Ef T.F m.g m.h p.2.1 p.2.2 u) (ρ.take us.length) us) (hone:∀x y v z,lk x ρ=some (.own,v)→lk y ρ=some z→x=y) {W:Addr→Prop} (hW:∀x v w vs,lk x ρ=some (.own,v)→(x,w)∈fd.params.zip (us++vs)→∀a,w=.ref a→W a) {R:Result→Shared→Prop}
  (h:∀env(hE:Ma env fd.scope)(hC:vU env)(c:FS ⟨m.h,m.g,W⟩ (⟨b,A.deeper env,env,fd.scope,bU hA env,hE,hC⟩:Pl T) ρ σ),(∀x u,(x,u)∈fd.params.zip us→B4 env c.h x u)→
   wpAny T.F.M (A.deeper env) (execs fd.body env) (λfl s'=>R (.ok (.ret (match fl with|.ret v=>v|_=>.none))) s') ff c.s):codeAny T.F.M A (.call (.ref (T.F.FV f)) ⟨us,[]⟩) R m.s:=by
 refine Ac λXz hXz=>?_
 obtain⟨fda,X⟩:=hX.at' f fd hf
 have S:=A69 (hX.ok f fd hf)
 obtain⟨o,ho,hd⟩:=X.obj
 obtain⟨vs,avs,hbind⟩:=X.binds rs ρ0 hb us hl
 refine hXz ?_
 rw[← hdr]at avs
 have en:ρ.map (·.1)=fd.params:=hnm.trans (Fb _ _ _ _ hb).1
 have hws:A6 (λ(p:Str×SK×V) u=>Ef T.F m.g m.h p.2.1 p.2.2 u) ρ (us++vs):=by
  have:=hsl.append (avs.imp (S:=λ(p:Str×SK×V) u=>Ef T.F m.g m.h p.2.1 p.2.2 u) λp u r=>by
   obtain⟨x,sk,v⟩:=p
   cases r.1
   exact r.2 m.g)
  rwa [List.take_append_drop]at this
 have hwl:(us++vs).length=fd.params.length:=hws.length.trans ((List.length_map _).symm.trans (congrArg List.length en))
 have hzk:(fd.params.zip (us++vs)).map (·.1)=fd.params:=List.map_fst_zip (Nat.le_of_eq hwl.symm)
 have hzn:((fd.params.zip (us++vs)).map (·.1)).Nodup:=hzk.symm▸S.nd
 have mem_p:∀{x u},(x,u)∈fd.params.zip (us++vs)→x∈fd.params:=λh=>(List.of_mem_zip h).1
 have cl:∀x,lk x fd.scope.names=some .cell→∃c,(cellsFrom (m.h.objs.size+1) fd.scope.names []).lookup x=some c:=λx e=>Jc fd.scope.names _ [] (.inl (Fr e))
 refine codeAny_call_function (s:=m.s) (Nat.lt_of_le_of_lt (Ag (Nat.le_add_right _ _) (Nat.le_add_right _ _)) hA.depth) (m.inv.base _ _ ho) hd (X.scope▸S.co) (X.scope▸S.gen) X.body (X.code.imp λc q=>q.imp λoc q=>q.imp λvs' q=>q.imp λtq q=>⟨q.1,m.inv.base _ _ q.2.1,q.2.2⟩) (hbind m.s m.inv.base _ _ _ _ ?_)
 simp only[X.closure,X.scope,X.globals,X.builtins]
 refine wpAny_newFunctionEnv_cells S.kind (λx hx=>?_) λenv he s1 x1=>?_
 ·exact(aP (S.par _ (mem_p (x:=x.1) (u:=x.2) hx))).imp (λe=>(G8 ..).trans e) λe=>⟨(G8 ..).trans e,(cl _ e).elim λc hc=>by simp only[show m.s.heap=m.h from rfl,hc];rfl⟩
 ·have hkind:∀x,env.kindOf x=lk x fd.scope.names:=λx=>by subst he;exact G8 ..
  have hcl:∀x,lk x fd.scope.names=some .cell→∃c,env.cells.lookup x=some c:=λx e=>by subst he;exact cl x e
  obtain⟨h1,t1,rfl⟩:=x1.toInCall.same
  have keep:∀b o,m.h.get? b=some o→h1.get? b=some o:=x1.toInCall.keep
  have nl:m.h.get? env.locals=none:=R4 x1.toInCall.fresh
  have nc:∀x c,env.cells.lookup x=some c→m.h.get? c=none:=λx c e=>R4 (Nat.le_of_lt (Nat.lt_of_le_of_lt x1.toInCall.fresh (x1.above x c (mem_of_lookup e))))
  have nFr:∀a,Oy env a→m.h.get? a=none:=λa q=>q.elim (λq=>q▸nl) λq=>q.elim λx q=>nc x a q
  have st:De No m.g m.h m.g h1:=.keeps keep
  have hheld:∀x u,(x,u)∈fd.params.zip (us++vs)→B4 env h1 x u:=λx u hx=>(aP (S.par _ (mem_p hx))).elim
   (λe=>.inl ⟨(hkind x).trans e,_,x1.toInCall.ns,Vr ((hkind x).trans e) _ _ hzn hx⟩)
   λe=>(hcl x e).elim λc hc=>.inr ⟨(hkind x).trans e,c,hc,Vt ((hkind x).trans e) _ (λη=>none) hzn hx▸x1.cell x c hc⟩
  have hE:Ma env fd.scope:=⟨by subst he;exact S.kind,by subst he;rfl,by subst he;rfl,S.debug,λx kx e=>(hkind x).trans (e.trans (congrArg some (S.names x kx e).symm)),λx e=>hcl x ((hkind x).symm.trans e)⟩
  have hC:vU env:=⟨λx c e q=>Nat.lt_irrefl _ (q▸x1.above x c (mem_of_lookup e)),λx y c e1 e2=>name_of_addr x1.apart (mem_of_lookup e1) (mem_of_lookup e2)⟩
  have lkH:∀x sk v,lk x ρ=some (sk,v)→∃u,B4 env h1 x u∧Ef T.F m.g m.h sk v u∧(x,u)∈fd.params.zip (us++vs):=λx sk v e=>(vO hws e).imp λu q=>⟨hheld x u (en▸q.1),q.2,en▸q.1⟩
  let M:Mo T.F b σ:=⟨h1,t1,m.g,m.inv.keep keep⟩
  have own:∀x sk v,lk x ρ=some (sk,v)→sk≠.val→∀u,B4 env h1 x u→Bh T.F m.g m.h v u∧(x,u)∈fd.params.zip (us++vs):=λx sk v e hs u hu=>(lkH x sk v e).elim λu' q=>Hv q.1 hu▸⟨Td hs q.2.1,q.2.2⟩
  let c:FS ⟨m.h,m.g,W⟩ (⟨b,A.deeper env,env,fd.scope,bU hA env,hE,hC⟩:Pl T) ρ σ:=
   {M with
    fr:=λa q=>q.elim (λq=>q▸.new m.inv nl (x1.toInCall.ns.elim λo q=>q.elim λη q=>q.elim λη q=>⟨o,q.1⟩)) λq=>q.elim λx e=>.new m.inv (nc x a e) ((x1.cell x a e).imp λo q=>q.1)
    loc:=λx sk v e η=>(lkH x sk v e).imp λu q=>⟨q.1,G4 st (λη η η=>id) q.2.1⟩
    st:=st.weak λη q=>q.elim
    new:=λa q=>q.elim (λq=>.inr (nFr a q)) λq=>q.elim λx q=>q.elim λv q=>.inl (hW x v _ vs q.1 (own x _ v q.1 (λh=>nomatch h) _ q.2).2 a rfl)
    ns:=⟨_,x1.toInCall.ns⟩
    cell:=λx c e=>⟨_,x1.cell x c e⟩
    sep:=λx sk v a e hs q=>⟨λhfr=>(own x sk v e hs _ q).1.here.elim λo ho=>Fc (nFr a hfr) ho,λhso o=>o.elim λy o=>o.elim λt o=>o.elim λw r=>r.1 (hone x y v _ (hso▸e) r.2.1).symm⟩}
  exact⟨hX.nolim.keeps λb o e=>keep b o (m.inv.base b o e),codeAny_func (w0 (h env hE hC c λx u hx=>hheld x u (oZ hx)))⟩
theorem d7{g:Gh}{h:Heap}{F:Cc}{ρ1:A1}{rs:List RV}{us:List Value}(h1:A6 (λ(p:Str×SK×V)(r:RV)=>p.2=(B59 r.2,r.1)) ρ1 rs):A6 (Vv F g h) rs us→A6 (λ(p:Str×SK×V) u=>Ef F g h p.2.1 p.2.2 u) ρ1 us:=by
 induction h1 generalizing us with
 |nil=>exactλh=>by cases h;exact .nil
 | @cons p r ps rs h1 _ ih=>
  intro h2
  cases h2 with
  |cons h2 h3=>
   refine .cons ?_ (ih h3)
   rw[h1]
   obtain⟨v,k⟩:=r
   cases k<;>exact h2
set_option backward.match.sparseCases true in
noncomputable def vZ:Flow→Value
 |.ret v=>v
 |_=>.none
theorem uV{rv:RV}{fl:Fl}{f:Flow}{n:Heap}{g0 g:Gh}{F:Cc}{h:Heap}(he:C13 fl=some rv)(r:Sx ⟨n,g0,No⟩ F g h fl f):X2 F n g h rv (vZ f):=by
 cases fl with
 |nx=>cases he;cases r;exact rfl
 |cont=>exact Ao he
 |ret rv'=>
  cases he
  obtain⟨u,rfl,r⟩:=r
  obtain⟨v,k⟩:=rv
  cases k with
  |cl=>exact r
  |fr=>exact⟨r.1,λa e=>(r.2 a e).elim False.elim id⟩
  |al=>exact r
theorem eR(hX:Qh T.F)(hio:Jd T.F T.d T.w):Zb T.F (T.d+1) ⟨Iw T.I,X0 T.I,λη=>false⟩:=λf rs σ rv σ' he A b m us hA al Q hQ=>by
 refine Ac λXz hXz=>?_
 obtain⟨fd,hf,he⟩:=A4 (show o1 (fn f) (λfd=>wB T.I fd rs σ)=_ from he)
 obtain⟨ρ,hb,he⟩:=A4 (show o1 (Gk fd.params fd.dfl rs) _=_ from he)
 obtain⟨fl,r,e1,he⟩:=Av he
 obtain⟨v,ev,he⟩:=A4 he
 refine hXz ?_
 cases he
 refine Ac λXz hXz=>?_
 obtain⟨en,ρ1,ρ2,eρ,a1⟩:=Fb _ _ _ _ hb
 refine hXz ?_
 have hl:us.length=rs.length:=al.length
 have hl1:ρ1.length=us.length:=a1.length.symm.trans hl.symm
 have htk:ρ.take us.length=ρ1:=by rw[eρ,← hl1];exact List.take_left' rfl
 have noOwn:∀x v,lk x ρ≠some (.own,v):=λx v e=>by
  have hm:=Fr e
  rw[eρ]at hm
  rcases sB hm with hm|hm
  ·obtain⟨i,hi⟩:=List.mem_iff_getElem?.mp hm
   obtain⟨r,_,hr⟩:=a1.get hi
   obtain⟨v',k⟩:=r
   cases k<;>exact nomatch (Prod.mk.inj hr).1
  ·obtain⟨fda,X⟩:=hX.at' f fd hf
   obtain⟨vs,avs,_⟩:=X.binds rs ρ hb us hl
   rw[show ρ.drop us.length=ρ2 by rw[eρ,← hl1];exact List.drop_left' rfl]at avs
   obtain⟨i,hi⟩:=List.mem_iff_getElem?.mp hm
   obtain⟨_,_,h,_⟩:=avs.get hi
   exact nomatch h
 refine xH hX hf hb rfl rfl hA hl (htk.symm▸d7 a1 al) (λx y v z e=>absurd e (noOwn x v)) (W:=No) (λx v w vs e=>absurd e (noOwn x v)) λenv hE hC c η=>?_
 have z:=sss hio fd.body ⟨m.h,m.g,No⟩ _ ρ σ c
 rw[show Dn T.I fd.body fd.scope ρ σ=_ from e1]at z
 exact z _ λc' f r η=>hQ c'.toMo (vZ f) c'.st (uV ev r)
theorem sR(hX:Qh T.F):Jd T.F (T.d+1) ⟨Iw T.I,X0 T.I,λη=>false⟩:=λf v σ v' σ' he A b m u hA oa Q hQ=>by
 obtain⟨fd,hf,he⟩:=A4 (show o1 (fn f) (λfd=>Te T.I fd v σ)=_ from he)
 unfold Te at he
 rcases hp:fd.params with _|⟨p,_|⟨_,_⟩⟩<;>rw[hp]at he<;>try exact Ao he
 refine Ac λXz hXz=>?_
 obtain⟨hio,he⟩:=B7 he
 obtain⟨fl,r,e1,he⟩:=Av he
 refine hXz ?_
 cases fl with
 |cont=>exact Ao he
 |ret=>exact Ao he
 |nx=>
  obtain⟨w,e2,he⟩:=A4 he
  cases he
  have e2:=G6 e2
  have hb:Gk fd.params fd.dfl [(v,.cl)]=some [(p,.val,v)]:=by rw[hp];rfl
  have one:∀{x z},lk x [(p,SK.own,v)]=some z→x=p:=λ{x z} e=>by
   replace e:(match sq x p with|true=>some (SK.own,v)|false=>none)=some z:=e
   cases q:sq x p<;>rw[q]at e
   ·exact Ao e
   ·exact Bm.mp q
  obtain⟨a,rfl⟩:=oa.ref
  refine xH hX hf (rs:=[(v,.cl)]) (us:=[.ref a]) (ρ:=[(p,.own,v)]) hb rfl rfl hA rfl (.cons oa .nil) (λx y v z e1 e2=>(one e1).trans (one e2).symm) (W:=λb=>Value.ref a=.ref b) (λx v w vs e h b eb=>?_) λenv hE hC c hh=>?_
  ·rw[hp]at h
   rcases Mw h with q|q
   ·exact(Prod.mk.inj q).2.symm.trans eb
   ·exact absurd q List.not_mem_nil
  have hh0:B4 env c.h p (.ref a):=hh p (.ref a) (by rw[hp];exact .head _)
  have z:=sis (T:=T) fd.body hio _ _ _ _ c
  simp only[show Dn T.I fd.body fd.scope [(p,.own,v)] σ=_ from e1]at z
  exact z _ λc' f r hk=>hQ c'.toMo _ c'.st (c'.own e2 (λh=>nomatch h) (hk rfl p _ hh0))
end
theorem w9{F:Cc}(hF:Am F)(hX:Qh F):∀k,Zb F k (cx k)∧Jd F k (cx k)
 |0=>⟨λη η η η η h=>Ao h,λη η η η η h=>Ao h⟩
 |k+1=>have z:=w9 hF hX k;⟨eR (T:=⟨F,k,cx k,hF,z.1⟩) hX z.2,sR (T:=⟨F,k,cx k,hF,z.1⟩) hX⟩
end
section
open PySem
noncomputable abbrev I(i:Int):PyData:=.int i
noncomputable abbrev T(xs:List PyData):PyData:=.tuple xs
noncomputable abbrev S(s:Str):PyData:=.str s
noncomputable def base:List PyData:=[
 T [I 1,S "any"],T [I 1,S "unknown"],T [I 1,S "never"],T [I 1,S "void"],T [I 1,S "undefined"],T [I 1,S "null"],T [I 1,S "string"],T [I 1,S "number"],
 T [I 2,I 0,I 0],T [I 2,I 1,I 0],T [I 1,S "object"],T [I 8,T [],T [],T [],T [],T [],I 0],T [I 6,T [I 8,I 9]],T [I 1,S "error"],
 T [I 2,I 0,I 1],T [I 2,I 1,I 1],T [I 3,S "a",I 0],T [I 8,T [T [S "k",I 16,I 0,I 0]],T [],T [],T [],T [],I 0],
 T [I 3,S "b",I 0],T [I 8,T [T [S "k",I 18,I 0,I 0]],T [],T [],T [],T [],I 0],T [I 8,T [T [S "p",I 7,I 0,I 0]],T [],T [],T [],T [],I 0],
 T [I 10,I 0],T [I 3,S "a",I 1],T [I 3,S "b",I 1],T [I 4,I 0,I 0],T [I 4,I 0,I 1],T [I 4,I 1,I 0],T [I 4,I 1,I 1],
 T [I 5,I 1,S "A",I 0,I 0],T [I 5,I 1,S "A",I 0,I 1],T [I 5,I 1,S "B",I 1,I 0],T [I 5,I 1,S "B",I 1,I 1],T [I 5,I 2,S "D",I 1,I 0],T [I 5,I 2,S "D",I 1,I 1]]
noncomputable def Gx(ext:List PyData):List V:=(base++ext).map V.d
noncomputable def Ch:Nat→List PyData→List (PyData×V)
 |_,[]=>[]
 |n,x::xs=>(x,.d (.int n))::Ch (n+1) xs
noncomputable def xJ(did:Int)(name:Str)(m v:Nat):MO:=.inst 1 [("did",.d (I did)),("kind",.d (I 5)),("name",.d (S name)),("params",.d (T [])),("body",.d (I (-1))),("bases",.d (T [])),("static",.d (I (-1))),("extends_class",.d (I 0)),("abstract",.d (.bool false)),("members",.o m),("variances",.o v),("busy",.d (I 0)),("at",.d (I 0)),("file",.d (S "")),("nid",.d (I 0))]
noncomputable def St(ext:List PyData)(tl:Sg):Sg:=
 .inst 0 [("rows",.o 1),("index",.o 2),("decls",.o 3),("bounds",.o 4),("defaults",.o 5),("names",.o 6),("origins",.o 7),("renamed",.o 8),("shaping",.d (I 0)),("putting",.d (I 0))] ::
 .lst (Gx ext)::.dct (Ch 0 (base++ext))::
 .lst [.d .none,.o 9,.o 12]::.lst [.d (I (-1))]::.lst [.d (I (-1))]::.lst [.d (S "T")]::.dct []::.dct [] ::
 xJ 1 "E" 10 11::.lst [.d (T [S "A",I 0]),.d (T [S "B",I 1]),.d (T [S "C",I 1])]::.lst [] ::
 xJ 2 "F" 13 14::.lst [.d (T [S "D",I 1])]::.lst [] ::
 .inst 2 [("tab",.o 0),("deep",.d (I 0)),("most_rounds",.d (I 200)),("most_deep",.d (I 40)),("lib",.d .none)]::tl
end
section
open PySem
noncomputable abbrev Ad:RV:=(.o 0,.cl)
noncomputable abbrev iN(t:Nat):PyData:=.int (Int.ofNat t)
noncomputable abbrev iV(t:Nat):RV:=(.d (iN t),.cl)
noncomputable def B9(ext:List PyData)(t:Nat):Option PyData:=(base++ext)[t]?
theorem Bj{ext:List PyData}(tl:Sg){t:Nat}{row:PyData}(h:B9 ext t=some row):Hg (.o 1) (.d (iN t)) (St ext tl)=some (.d row,.cl):=by
 have e:((base++ext).map V.d)[t]?=some (.d row):=by rw[List.getElem?_map];exact congrArg _ h
 show o1 (match decide (0≤Int.ofNat t)with|true=>((base++ext).map V.d)[t]?|false=>none) _=_
 rw[decide_eq_true (show(0:Int)≤Int.ofNat t from Int.natCast_nonneg t),e]
 rfl
noncomputable def D4:List Nat:=[11,5,4,3]
noncomputable def C9(x:Nat):PyData:=T [I 7,T [iN 21,iN x]]
noncomputable def A0:List Nat:=[0,1,3,4,5,6,7,8,9,10,11,14,15,16,17,18,19,20,21,22,23,24,25,26,27,28,29,30,31,32,33]
inductive Ae(ext:List PyData):Nat→Nat→Prop
 |base {t:Nat}:t∈A0→Ae ext t t
 |inter {i j x:Nat}:D4[j]?=some x→ext[i]?=some (C9 x)→Ae ext (i+34) (j+34)
theorem Ey{ext:List PyData}{i:Nat}:B9 ext (i+34)=ext[i]?:=List.getElem?_append_right (Nat.le_add_left 34 i)
theorem Df{ext:List PyData}{t:Nat}(h:t<34):B9 ext t=base[t]?:=List.getElem?_append_left h
theorem Ay{α β:Type}{f g:α→β}:∀{l:List α},l.map f=l.map g→∀{x:α},x∈l→f x=g x
 |a::l,h,x,hx=>(Mw hx).elim (λe=>e▸(List.cons.inj h).1) λq=>Ay (List.cons.inj h).2 q
theorem Lw{P:Nat→Nat→Prop}(h0:P 0 11)(h1:P 1 5)(h2:P 2 4)(h3:P 3 3):∀{j x:Nat},D4[j]?=some x→P j x
 |0,_,h=>Cd h▸h0
 |1,_,h=>Cd h▸h1
 |2,_,h=>Cd h▸h2
 |3,_,h=>Cd h▸h3
theorem C1{ext:List PyData}{P:Nat→Nat→Prop}(h0:∀t∈A0,P t t)(h1:∀i,B9 ext (i+34)=some (C9 11)→P (i+34) 34)(h2:∀i,B9 ext (i+34)=some (C9 5)→P (i+34) 35)
  (h3:∀i,B9 ext (i+34)=some (C9 4)→P (i+34) 36) (h4:∀i,B9 ext (i+34)=some (C9 3)→P (i+34) 37) {t c:Nat} (h:Ae ext t c):P t c:=by
 induction h with
 |base hb=>exact h0 _ hb
 |inter hj he=>exact Lw (P:=λj x=>∀i,B9 ext (i+34)=some (C9 x)→P (i+34) (j+34)) h1 h2 h3 h4 hj _ (Ey.trans he)
noncomputable def C91:List Nat:=[0,0,0,6,5,4,1,2,3,3,7,7,3,0,3,3,1,7,1,7,7,0,1,1,2,2,2,2,2,2,2,2,2,2,0,4,5,6]
noncomputable def B1(t:Nat):Nat:=C91.getD t 0
section
variable(k:Nat){ext:List PyData}(tl:Sg)
theorem mQ:A0.map (λt=>(cx (k+4)).call "family" [Ad,iV t] (St ext tl))=A0.map (λt=>some ((.d (iN (B1 t)),.cl),St ext tl)):=by kernel_rfl
theorem A2{t c:Nat}(h:Ae ext t c):(cx (k+4)).call "family" [Ad,iV t] (St ext tl)=some ((.d (iN (B1 c)),.cl),St ext tl):=
 C1 (P:=λt c=>(cx (k+4)).call "family" [Ad,iV t] (St ext tl)=some ((.d (iN (B1 c)),.cl),St ext tl)) (λt ht=>Ay (mQ k tl) ht)
  (λi h=>xF [.v 218010021 (Bj tl h)]) (λi h=>xF [.v 218010021 (Bj tl h)]) (λi h=>xF [.v 218010021 (Bj tl h)]) (λi h=>xF [.v 218010021 (Bj tl h)]) h
noncomputable def pvL:List PyData:=[T [],T [],T [],T [],T [I 5,I 0],T [I 4,I 0],T [],T [],T [I 3,I 0],T [I 3,I 1],T [],T [],T [],T [],T [I 3,I 0],T [I 3,I 1],T [I 1,S "a"],T [],T [I 1,S "b"],T [],T [],T [],T [I 1,S "a"],T [I 1,S "b"],T [I 2,I 0],T [I 2,I 0],T [I 2,I 1],T [I 2,I 1],T [I 2,I 0],T [I 2,I 0],T [I 2,I 1],T [I 2,I 1],T [I 2,I 1],T [I 2,I 1]]
noncomputable def Lr(c:Nat):PyData:=pvL.getD c (T [])
theorem qT:A0.map (λt=>(cx (k+5)).call "plain_value" [Ad,iV t] (St ext tl))=A0.map (λt=>some ((.d (Lr t),.cl),St ext tl)):=by kernel_rfl
theorem Db{t c:Nat}(h:Ae ext t c):(cx (k+5)).call "plain_value" [Ad,iV t] (St ext tl)=some ((.d (Lr c),.cl),St ext tl):=
 C1 (P:=λt c=>(cx (k+5)).call "plain_value" [Ad,iV t] (St ext tl)=some ((.d (Lr c),.cl),St ext tl)) (λt ht=>Ay (qT k tl) ht) (λi h=>xF [.v 474010021 (Bj tl h)]) (λi h=>xF [.v 474010021 (Bj tl h)]) (λi h=>xF [.v 474010021 (Bj tl h)]) (λi h=>xF [.v 474010021 (Bj tl h)]) h
noncomputable def twL:List Int:=[-1, -1, -1, -1, -1, -1, -1, -1, -1, -1, -1, -1, -1, -1,8,9, -1, -1, -1, -1, -1, -1,16,18, -1,24, -1,26, -1,28, -1,30, -1,32]
noncomputable def Ik(c:Nat):Int:=twL.getD c (-1)
theorem pQ:A0.map (λt=>(cx (k+4)).call "regular_twin" [Ad,iV t] (St ext tl))=A0.map (λt=>some ((.d (.int (Ik t)),.cl),St ext tl)):=by kernel_rfl
theorem Zk{t c:Nat}(h:Ae ext t c):(cx (k+4)).call "regular_twin" [Ad,iV t] (St ext tl)=some ((.d (.int (Ik c)),.cl),St ext tl):=
 C1 (P:=λt c=>(cx (k+4)).call "regular_twin" [Ad,iV t] (St ext tl)=some ((.d (.int (Ik c)),.cl),St ext tl)) (λt ht=>Ay (pQ k tl) ht) (λi h=>xF [.v 153010021 (Bj tl h)]) (λi h=>xF [.v 153010021 (Bj tl h)]) (λi h=>xF [.v 153010021 (Bj tl h)]) (λi h=>xF [.v 153010021 (Bj tl h)]) h
noncomputable def C8(c:Nat):Bool:=match B1 c with
 |0=>false
 |7=>false
 |_=>true
theorem C3{t c:Nat}(h:Ae ext t c):c<38:=
 C1 (P:=λη c=>c<38) (by decide) (λη η=>by decide) (λη η=>by decide) (λη η=>by decide) (λη η=>by decide) h
theorem iM{c:Nat}(hc:c<38):([PyData.int 1,.int 2,.int 3,.int 4,.int 5,.int 6].any λy=>PyData.eqv y (iN (B1 c)))=C8 c:=by
 revert c
 decide +kernel
theorem Pn{t c:Nat}(h:Ae ext t c):(cx (k+5)).call "narrow_is_primitive" [Ad,iV t] (St ext tl)=some ((.d (.bool (C8 c)),.cl),St ext tl):=by
 exact(iM (C3 h))▸xF [.c (A2 _ tl h)]
theorem Hx{α:Type}{P:α→Prop}{d:α}(hd:P d):∀{l:List α},(∀x∈l,P x)→∀c,P (l.getD c d)
 |[],_,_=>hd
 |_::_,h,0=>h _ (.head _)
 |_::l,h,c+1=>Hx hd (l:=l) (λx hx=>h x (.tail _ hx)) c
theorem Lq(c:Nat):Dv (Lr c)=true:=Hx (P:=λx=>Dv x=true) rfl (by decide +kernel) c
theorem Lc{a b:PyData}{σ:Sg}(ha:Dv a=true)(hb:Dv b=true):Cp .Eq (.d a) (.d b) σ=some (PyData.eqv a b):=by
 show(match Dv a&&Dv b with|true=>some (PyData.eqv a b)|false=>none)=_
 rw[ha,hb];rfl
noncomputable def Ng(c d:Nat):Bool:=
 PyData.eqv (iN (B1 c)) (.int 0)||(PyData.eqv (iN (B1 d)) (.int 0)||(match PyData.eqv (iN (B1 c)) (iN (B1 d))with
  |true=>PyData.eqv (Lr c) (.tuple [])||(PyData.eqv (Lr d) (.tuple [])||PyData.eqv (Lr c) (Lr d))
  |false=>([PyData.int 4,.int 5,.int 6].any λy=>PyData.eqv y (iN (B1 c)))&&(([PyData.int 4,.int 5,.int 6].any λy=>PyData.eqv y (iN (B1 d)))&&!([iN (B1 c),iN (B1 d)].any λy=>PyData.eqv y (.int 4)))))
theorem Qx{s t c d:Nat}(h:Ae ext s c)(h':Ae ext t d):(cx (k+6)).call "plain_meets" [Ad,iV s,iV t,(.d (.bool true),.cl)] (St ext tl)=some ((.d (.bool (Ng c d)),.cl),St ext tl):=by
 have e1:=Lc (σ:=St ext tl) (Lq c) (show Dv (.tuple [])=true from rfl)
 have e2:=Lc (σ:=St ext tl) (Lq d) (show Dv (.tuple [])=true from rfl)
 have e3:=Lc (σ:=St ext tl) (Lq c) (Lq d)
 unfold Ng
 cases q1:PyData.eqv (iN (B1 c)) (.int 0)
 case true=>exact xF [.c (A2 _ tl h),.c (A2 _ tl h'),.t 487007022 q1]
 cases q2:PyData.eqv (iN (B1 d)) (.int 0)
 case true=>exact xF [.c (A2 _ tl h),.c (A2 _ tl h'),.t 487007022 q1,.t 487026041 q2]
 cases q3:PyData.eqv (iN (B1 c)) (iN (B1 d))
 case true=>
  cases q4:PyData.eqv (Lr c) (.tuple [])<;>rw[q4]at e1
  case true=>exact xF [.c (A2 _ tl h),.c (A2 _ tl h'),.t 487007022 q1,.t 487026041 q2,.t 489007015 q3,.c (Db _ tl h),.c (Db _ tl h'),.b 492015024 e1]
  cases q5:PyData.eqv (Lr d) (.tuple [])<;>rw[q5]at e2
  case true=>exact xF [.c (A2 _ tl h),.c (A2 _ tl h'),.t 487007022 q1,.t 487026041 q2,.t 489007015 q3,.c (Db _ tl h),.c (Db _ tl h'),.b 492015024 e1,.b 492028039 e2]
  case false=>exact xF [.c (A2 _ tl h),.c (A2 _ tl h'),.t 487007022 q1,.t 487026041 q2,.t 489007015 q3,.c (Db _ tl h),.c (Db _ tl h'),.b 492015024 e1,.b 492028039 e2,.b 492043055 e3]
 cases q4:[PyData.int 4,.int 5,.int 6].any λy=>PyData.eqv y (iN (B1 c))
 case false=>exact xF [.c (A2 _ tl h),.c (A2 _ tl h'),.t 487007022 q1,.t 487026041 q2,.t 489007015 q3,.t 493007020 q4]
 cases q5:[PyData.int 4,.int 5,.int 6].any λy=>PyData.eqv y (iN (B1 d))
 case false=>exact xF [.c (A2 _ tl h),.c (A2 _ tl h'),.t 487007022 q1,.t 487026041 q2,.t 489007015 q3,.t 493007020 q4,.t 493025038 q5]
 exact xF [.c (A2 _ tl h),.c (A2 _ tl h'),.t 487007022 q1,.t 487026041 q2,.t 489007015 q3,.t 493007020 q4,.t 493025038 q5]
end
end
section
open PySem
noncomputable def Bz(ps:List Nat):PyData:=T [I 6,T (ps.map iN)]
inductive K(ext:List PyData):Nat→List Nat→Prop
 |never:K ext 2 []
 |one {t c:Nat}:Ae ext t c→K ext t [t]
 |many {t:Nat} {ps:List Nat}:B9 ext t=some (Bz ps)→2≤ps.length→ps.Pairwise (· <·)→(∀p∈ps,∃c,Ae ext p c)→K ext t ps
theorem Cn{t b:Nat}(h:t≠b):PyData.eqv (iN t) (.int (Int.ofNat b))=false:=nS λe=>h (Int.ofNat.inj e)
theorem T2{ext:List PyData}{ps:List Nat}(h:B9 ext 2=some (Bz ps)):False:=nomatch (Df (ext:=ext) (t:=2) (by decide)).symm.trans h
section
variable(k:Nat){ext:List PyData}(tl:Sg)
theorem Xg:A0.map (λt=>(cx (k+1)).call "parts_of" [Ad,iV t] (St ext tl))=A0.map (λt=>some ((.d (.tuple [iN t]),.cl),St ext tl)):=by kernel_rfl
theorem Tv{t x:Nat}(hr:B9 ext t=some (C9 x))(h2:t≠2):(cx (k+1)).call "parts_of" [Ad,iV t] (St ext tl)=some ((.d (.tuple [iN t]),.cl),St ext tl):=by
 have hne:PyData.eqv (iN t) (.int 2)=false:=Cn h2
 exact xF [.t 137007017 hne,.v 139010021 (Bj tl hr)]
theorem Xf{t:Nat}{ps:List Nat}(hr:B9 ext t=some (Bz ps)):(cx (k+1)).call "parts_of" [Ad,iV t] (St ext tl)=some ((.d (.tuple (ps.map iN)),.cl),St ext tl):=by
 have hne:PyData.eqv (iN t) (.int 2)=false:=Cn λe=>T2 (e▸hr)
 exact xF [.t 137007017 hne,.v 139010021 (Bj tl hr)]
theorem r9{t c:Nat}(h:Ae ext t c):t∈A0∨∃x,B9 ext t=some (C9 x)∧t≠2:=by
 induction h with
 |base h=>exact .inl h
 |inter h1 h2=>exact .inr ⟨_,Ey.trans h2,λh=>nomatch h⟩
theorem Tu:(cx (k+1)).call "parts_of" [Ad,iV 2] (St ext tl)=some ((.d (.tuple []),.cl),St ext tl):=by kernel_rfl
theorem Aa{t:Nat}{ps:List Nat}(h:K ext t ps):(cx (k+1)).call "parts_of" [Ad,iV t] (St ext tl)=some ((.d (.tuple (ps.map iN)),.cl),St ext tl):=by
 induction h with
 |never=>exact Tu k tl
 |one h=>exact(r9 h).elim (Ay (Xg k tl)) λ⟨x,hr,h2⟩=>Tv k tl hr h2
 |many hr=>exact Xf k tl hr
end
noncomputable def nN(row:PyData):Nat:=match row with
 |.tuple [_,.tuple [_,.int x]]=>match x with
  |11=>34
  |5=>35
  |4=>36
  |3=>37
  |_=>0
 |_=>0
noncomputable def A5(ext:List PyData)(t:Nat):Nat:=match Nat.blt t 34 with
 |true=>t
 |false=>match ext[t-34]? with
  |some row=>nN row
  |none=>0
theorem Aq{ext:List PyData}{t c:Nat}(h:Ae ext t c):A5 ext t=c:=by
 induction h with
 | @base t h=>
  unfold A5
  rw[(by decide:∀t∈A0,Nat.blt t 34=true) t h]
 | @inter i j x h1 h2=>
  unfold A5
  rw[show Nat.blt (i+34) 34=false from rfl]
  show(match ext[i]? with|some row=>nN row|none=>0)=_
  exact(h2)▸Lw (P:=λj x=>nN (C9 x)=j+34) rfl rfl rfl rfl h1
theorem E7{ext:List PyData}{t c:Nat}(h:Ae ext t c):Ae ext t (A5 ext t):=by rw[Aq h];exact h
theorem K.parts{ext:List PyData}{t:Nat}{ps:List Nat}(h:K ext t ps):∀p∈ps,Ae ext p (A5 ext p):=by
 induction h with
 |never=>exactλη hp=>absurd hp List.not_mem_nil
 |one h=>exactλp hp=>Hd hp▸E7 h
 |many _ _ _ h=>exactλp hp=>let⟨_,hc⟩:=h p hp;E7 hc
theorem Ld(g:Nat→Bool):∀ps:List Nat,Fu (ps.map λp=>.bool (g p))=some (ps.map g)
 |[]=>rfl
 |p::ps=>by
  show(match Fu (ps.map λp=>.bool (g p))with|some l=>some (g p::l)|none=>none)=_
  rw[Ld g ps];rfl
theorem Ij{ps:List Nat}{g:Nat→Bool}{kd:Kd}(σ:Sg):Gj .all [((V.d (.list (ps.map λp=>.bool (g p)))),kd)] σ=some (.d (.bool (ps.all g)),.cl):=by
 show o1 (Fu (ps.map λp=>.bool (g p))) (λl=>some (V.d (.bool (l.all id)),Kd.cl))=_
 rw[Ld]
 show some _=_
 rw[List.all_map]
 rfl
section
variable(k:Nat){ext:List PyData}(tl:Sg)
theorem D3{t:Nat}{ps:List Nat}(h:K ext t ps):(cx (k+6)).call "all_primitive" [Ad,iV t] (St ext tl)=some ((.d (.bool (ps.all λp=>C8 (A5 ext p))),.cl),St ext tl):=by
 have q:∀ρ,Bn ρ [("tab",.val,.o 0),("t",.val,.d (iN t))]→J7 (rl (cx (k+5))) (lc "all_primitive" 571015076) (Cg "all_primitive") ρ (St ext tl)=some ((.d (.list (ps.map λp=>.bool (C8 (A5 ext p)))),.fr),St ext tl):=
  xC [.c (Aa _ tl h)] (by kernel_rfl) (by kernel_rfl) (Fo.map (i:=iN) λp hp=>xT [.c (Pn _ tl (h.parts p hp))])
 have e:=Ij (ps:=ps) (g:=λp=>C8 (A5 ext p)) (kd:=.fr) (St ext tl)
 exact xF [.e 571015076 q,.v 571011077 e]
end
end
section
open PySem
noncomputable def Aj(c:Nat):Bool:=[PyData.int 4,.int 5,.int 6].any λy=>PyData.eqv y (iN (B1 c))
section
variable(k:Nat){ext:List PyData}(tl:Sg)
theorem uW{α:Type}{f:Nat→α}(ps:List Nat):decide ((0:Int) <(((ps.map f).length:Nat):Int))= !ps.isEmpty:=by
 cases ps with
 |nil=>rfl
 |cons p ps=>exact decide_eq_true (show(0:Int) <_ from Int.natCast_pos.mpr (Nat.succ_pos _))
theorem E9{t:Nat}{ps:List Nat}(h:K ext t ps):(cx (k+5)).call "is_nullish_kind" [Ad,iV t] (St ext tl)=some ((.d (.bool (!ps.isEmpty&&ps.all λp=>Aj (A5 ext p))),.cl),St ext tl):=by
 have q:∀ρ,Bn ρ [("tab",.val,.o 0),("t",.val,.d (iN t)),("parts",.val,.d (.tuple (ps.map iN)))]→J7 (rl (cx (k+4))) (lc "is_nullish_kind" 498034082) (Cg "is_nullish_kind") ρ (St ext tl)=some ((.d (.list (ps.map λp=>.bool (Aj (A5 ext p)))),.fr),St ext tl):=
  xC [] (by kernel_rfl) (by kernel_rfl) (Fo.map (i:=iN) λp hp=>xT [.c (A2 _ tl (h.parts p hp))])
 have e:=Ij (ps:=ps) (g:=λp=>Aj (A5 ext p)) (kd:=.fr) (St ext tl)
 have e0:=uW (f:=iN) ps
 cases he:ps.isEmpty<;>rw[he]at e0
 case true=>exact xF [.c (Aa _ tl h),.t 498011025 e0]
 case false=>exact xF [.c (Aa _ tl h),.t 498011025 e0,.e 498034082 q,.v 498030083 e]
end
noncomputable def Co(row:PyData):Nat→List PyData→Option Nat
 |_,[]=>none
 |n,x::xs=>match PyData.eqv x row with
  |true=>some n
  |false=>Co row (n+1) xs
theorem aV{row:PyData}(n:Nat)(xs:List PyData):Cw row (Ch n xs)=(Co row n xs).map λt=>V.d (iN t):=by
 induction xs generalizing n with
 |nil=>rfl
 |cons x xs ih=>
  show(match PyData.eqv x row with|true=>some (V.d (.int n))|false=>Cw row (Ch (n+1) xs))=(match PyData.eqv x row with|true=>some n|false=>Co row (n+1) xs).map _
  cases PyData.eqv x row with
  |true=>rfl
  |false=>exact ih (n+1)
section
variable(k:Nat){ext:List PyData}(tl:Sg)
theorem x7{ks:List PyData}(hk:D8 (.tuple ks)=true):Cp .In (.d (.tuple ks)) (.o 2) (St ext tl)=some (Co (.tuple ks) 0 (base++ext)).isSome:=by
 show iB (D8 (.tuple ks)) (some (Cw (.tuple ks) (Ch 0 (base++ext))).isSome)=_
 rw[hk,aV]
 exact congrArg some (Option.isSome_map ..)
theorem yP{ks:List PyData}{t:Nat}(hk:D8 (.tuple ks)=true)(h:Co (.tuple ks) 0 (base++ext)=some t):Hg (.o 2) (.d (.tuple ks)) (St ext tl)=some (.d (iN t),.cl):=by
 show o1 (iB (D8 (.tuple ks)) (Cw (.tuple ks) (Ch 0 (base++ext)))) _=_
 rw[hk,aV,h]
 rfl
theorem qU{ks:List PyData}{t:Nat}(hk:D8 (.tuple ks)=true)(h:Co (.tuple ks) 0 (base++ext)=some t):(cx (k+1)).call "TypeTable.put" [Ad,(.d (.tuple ks),.cl)] (St ext tl)=some ((.d (iN t),.cl),St ext tl):=by
 have h1:=x7 tl (ext:=ext) hk
 rw[h]at h1
 have h2:=yP tl hk h
 exact xF [.b 92011028 h1,.v 93019034 h2]
theorem A20{row:PyData}{v:V}(n:Nat)(xs:List PyData):Co row n xs=none→Il row v (Ch n xs)=Ch n xs++[(row,v)]:=by
 induction xs generalizing n with
 |nil=>exactλη=>rfl
 |cons x xs ih=>
  show(match PyData.eqv x row with|true=>some n|false=>Co row (n+1) xs)=none→(match PyData.eqv x row with|true=>(x,v)::Ch (n+1) xs|false=>(x,V.d (.int n))::Il row v (Ch (n+1) xs))=_
  cases PyData.eqv x row with
  |true=>exactλh=>Ao h.symm
  |false=>exactλh=>congrArg (List.cons _) (ih (n+1) h)
theorem A22{row:PyData}(n:Nat)(xs:List PyData):Ch n (xs++[row])=Ch n xs++[(row,.d (iN (n+xs.length)))]:=by
 induction xs generalizing n with
 |nil=>rfl
 |cons x xs ih=>exact congrArg (List.cons _) ((ih (n+1)).trans (congrArg (λk=>Ch (n+1) xs++[(row,V.d (iN k))]) (Nat.succ_add_eq_add_succ n _)))
theorem A21(n:Nat)(xs:List PyData):(Ch n xs).length=xs.length:=by
 induction xs generalizing n with
 |nil=>rfl
 |cons x xs ih=>exact congrArg (· +1) (ih (n+1))
theorem Tf:(Gx ext).length=(base++ext).length:=by unfold Gx;rw[List.length_map]
theorem iL{ks:List PyData}(hk:D8 (.tuple ks)=true)(h:Co (.tuple ks) 0 (base++ext)=none)(hr:room ((base++ext).length+1)=true):(cx (k+1)).call "TypeTable.put" [Ad,(.d (.tuple ks),.cl)] (St ext tl)=some ((.d (iN (base++ext).length),.cl),St (ext++[.tuple ks]) tl):=by
 have h1:=x7 tl (ext:=ext) hk
 rw[h]at h1
 have hl:Gj .len [((V.o 1),Kd.cl)] (St ext tl)=some (.d (iN (base++ext).length),.cl):=by
  show some (V.d (.int ((Gx ext).length:Int)),Kd.cl)=_
  rw[Tf];rfl
 have r1:some (room ((Gx ext).length+[V.d (PyData.tuple ks)].length))=some true:=congrArg some (by rw[Tf];exact hr)
 have r2:some (D8 (.tuple ks)&&room ((Ch 0 (base++ext)).length+1))=some true:=congrArg some (by rw[A21,hk,hr];rfl)
 have hs:St (ext++[.tuple ks]) tl=((St ext tl).set 1 (.lst (Gx ext++[.d (.tuple ks)]))).set 2 (.dct (Il (.tuple ks) (.d (iN (base++ext).length)) (Ch 0 (base++ext)))):=by
  rw[A20 0 _ h]
  have e1:Gx ext++[.d (.tuple ks)]=Gx (ext++[.tuple ks]):=by unfold Gx;rw[← List.append_assoc,List.map_append (l₁:=base++ext)];rfl
  have e2:Ch 0 (base++ext)++[(.tuple ks,.d (iN (base++ext).length))]=Ch 0 (base++(ext++[.tuple ks])):=by
   rw[← List.append_assoc,A22,Nat.zero_add]
  rw[e1,e2]
  rfl
 rw[hs]
 exact xF [.b 92011028 h1,.v 94012026 hl,.b 95008029 r1,.b 96008027 r2]
end
noncomputable def Hh(ps:List Nat):PyData:=.dict (ps.map λp=>(iN p,.int 1))
noncomputable def Az(ps:List Nat)(x:Int):Bool:=ps.any λp=>Int.ofNat p==x
theorem Ka{f:Nat→PyData}(x:Int):∀ps:List Nat,(Lb (.int x) (ps.map λp=>(iN p,f p))).isSome=Az ps x
 |[]=>rfl
 |p::ps=>by
  show(match(Int.ofNat p==x)with|true=>some (f p)|false=>Lb (.int x) (ps.map λp=>(iN p,f p))).isSome=((Int.ofNat p==x)||Az ps x)
  cases(Int.ofNat p==x)with
  |true=>rfl
  |false=>exact Ka x ps
theorem H7{σ:Sg}(x:Int)(ps:List Nat):Cp .In (.d (.int x)) (.d (Hh ps)) σ=some (Az ps x):=by
 show some (Lb (.int x) (ps.map λp=>(iN p,PyData.int 1))).isSome=_
 rw[Ka]
theorem aB{σ:Sg}(x:Int)(ps:List Nat):Cp .NotIn (.d (.int x)) (.d (Hh ps)) σ=some (!Az ps x):=by
 show some (!(Lb (.int x) (ps.map λp=>(iN p,PyData.int 1))).isSome)=_
 rw[Ka]
noncomputable def Hl(ps:List Nat):Int:=match Az ps 0,Az ps 13,Az ps 1 with
 |true,_,_=>0
 |false,true,_=>13
 |false,false,true=>1
 |false,false,false=> -1
section
variable(k:Nat){ext:List PyData}(tl:Sg)
theorem T4(ps:List Nat)(g:Str)(σ:Sg):(cx (k+1)).call "top_of" [(.d (Hh ps),.al g)] σ=some ((.d (.int (Hl ps)),.cl),σ):=by
 have h0:=H7 (σ:=σ) 0 ps
 have h1:=H7 (σ:=σ) 13 ps
 have h2:=H7 (σ:=σ) 1 ps
 unfold Hl
 cases q0:Az ps 0<;>rw[q0]at h0
 case true=>exact xF [.b 167011019 h0]
 cases q1:Az ps 13<;>rw[q1]at h1
 case true=>exact xF [.b 167011019 h0,.b 167011019 h1]
 cases q2:Az ps 1<;>rw[q2]at h2
 case true=>exact xF [.b 167011019 h0,.b 167011019 h1,.b 167011019 h2]
 case false=>exact xF [.b 167011019 h0,.b 167011019 h1,.b 167011019 h2]
end
noncomputable def whL:List Int:=[-1, -1, -1, -1, -1, -1, -1, -1, -1, -1, -1, -1, -1, -1, -1, -1,6, -1,6, -1, -1, -1,6,6,7,7,7,7,7,7,7,7,7,7]
noncomputable def Hj(c:Nat):Int:=whL.getD c (-1)
section
variable(k:Nat){ext:List PyData}(tl:Sg)
theorem pB(σ:Sg):A0.map (λt=>(base[t]?).bind λrow=>(cx (k+2)).call "whole_of_row" [(.d row,.cl)] σ)=A0.map (λt=>some ((.d (.int (Hj t)),.cl),σ)):=by kernel_rfl
theorem p7{t c:Nat}(h:Ae ext t c):∃row,B9 ext t=some row∧∀k σ,(cx (k+2)).call "whole_of_row" [(.d row,.cl)] σ=some ((.d (.int (Hj c)),.cl),σ):=by
 refine C1 (P:=λt c=>∃row,B9 ext t=some row∧∀k σ,(cx (k+2)).call "whole_of_row" [(.d row,.cl)] σ=some ((.d (.int (Hj c)),.cl),σ)) (λt ht=>?_) (λi h=>⟨_,h,λk σ=>by kernel_rfl⟩) (λi h=>⟨_,h,λk σ=>by kernel_rfl⟩) (λi h=>⟨_,h,λk σ=>by kernel_rfl⟩) (λi h=>⟨_,h,λk σ=>by kernel_rfl⟩) h
 have hl:t<34:=(by decide:∀t∈A0,t<34) t ht
 refine⟨base[t],(Df hl).trans (List.getElem?_eq_getElem hl),λk σ=>?_⟩
 have:=Ay (pB k σ) ht
 rw[List.getElem?_eq_getElem (show t<base.length from hl)]at this
 exact this
theorem Wx{t c:Nat}(h:Ae ext t c)(ps:List Nat)(g:Str):(cx (k+5)).call "stays_beside" [Ad,(.d (Hh ps),.al g),iV t] (St ext tl)=some ((.d (.bool (!Az ps (Ik c)&&!Az ps (Hj c))),.cl),St ext tl):=by
 obtain⟨row,hr,hw⟩:=p7 h
 have h0:=H7 (σ:=St ext tl) (Ik c) ps
 have h1:=aB (σ:=St ext tl) (Hj c) ps
 cases q0:Az ps (Ik c)<;>rw[q0]at h0
 case true=>exact xF [.c (Zk _ tl h),.b 162007034 h0]
 case false=>exact xF [.c (Zk _ tl h),.b 162007034 h0,.v 164024035 (Bj tl hr),.c (hw _ (St ext tl)),.b 164011047 h1]
end
noncomputable def Im(x:Nat)(ps:List Nat):List Nat:=match Az ps (Int.ofNat x)with
 |true=>ps
 |false=>ps++[x]
theorem Gf(x:Nat):∀ps:List Nat,La (iN x) (.int 1) (ps.map λp=>(iN p,PyData.int 1))=(Im x ps).map λp=>(iN p,PyData.int 1)
 |[]=>rfl
 |p::ps=>by
  have ih:=Gf x ps
  show(match(Int.ofNat p==Int.ofNat x)with|true=>(iN p,PyData.int 1)::ps.map (λp=>(iN p,PyData.int 1))|false=>(iN p,PyData.int 1)::La (iN x) (.int 1) (ps.map λp=>(iN p,.int 1)))=_
  show _=(match(Int.ofNat p==Int.ofNat x)||Az ps (Int.ofNat x)with|true=>p::ps|false=>(p::ps)++[x]).map λp=>(iN p,PyData.int 1)
  cases(Int.ofNat p==Int.ofNat x)with
  |true=>rfl
  |false=>
   rw[ih]
   unfold Im
   cases Az ps (Int.ofNat x)<;>rfl
noncomputable def Bt(ps:List Nat):List Nat:=match(Az ps 8||Az ps 14)&&(Az ps 9||Az ps 15)with
 |true=>Im 9 (Im 8 ps)
 |false=>ps
theorem W5(x:Nat)(ps:List Nat):(Im x ps).length≤ps.length+1:=by
 unfold Im
 split<;>simp
section
variable(k:Nat)
theorem Pz(ps:List Nat)(σ:Sg)(hl:ps.length<1000):(cx (k+1)).io "join_bools" (.d (Hh ps)) σ=some (.d (Hh (Bt ps)),σ):=by
 have h0:=H7 (σ:=σ) 8 ps
 have h1:=H7 (σ:=σ) 14 ps
 have h2:=H7 (σ:=σ) 9 ps
 have h3:=H7 (σ:=σ) 15 ps
 have go:((Az ps 8||Az ps 14)&&(Az ps 9||Az ps 15))=true→Hh (Bt ps)=.dict (La (iN 9) (.int 1) (La (iN 8) (.int 1) (ps.map λp=>(iN p,.int 1)))):=λe=>by
  unfold Bt Hh
  rw[e,Gf,Gf]
 have no:((Az ps 8||Az ps 14)&&(Az ps 9||Az ps 15))=false→Hh (Bt ps)=Hh ps:=λe=>by
  unfold Bt
  rw[e]
 have r1:some (Lx (iN 8)&&room ((ps.map λp=>(iN p,PyData.int 1)).length+1))=some true:=congrArg some (by rw[List.length_map];exact Sc (by omega))
 have r2:some (Lx (iN 9)&&room ((La (iN 8) (.int 1) (ps.map λp=>(iN p,PyData.int 1))).length+1))=some true:=congrArg some (by rw[Gf,List.length_map];exact Sc (by have:=W5 8 ps;omega))
 cases q0:Az ps 8<;>rw[q0]at h0 go no
 ·cases q1:Az ps 14<;>rw[q1]at h1 go no
  ·rw[no rfl];exact xI [.b 158008022 h0,.b 158026040 h1]
  ·cases q2:Az ps 9<;>rw[q2]at h2 go no
   ·cases q3:Az ps 15<;>rw[q3]at h3 go no
    ·rw[no rfl];exact xI [.b 158008022 h0,.b 158026040 h1,.b 158047060 h2,.b 158064078 h3]
    ·rw[go rfl];exact xI [.b 158008022 h0,.b 158026040 h1,.b 158047060 h2,.b 158064078 h3,.b 159008024 r1,.b 160008023 r2]
   ·rw[go rfl];exact xI [.b 158008022 h0,.b 158026040 h1,.b 158047060 h2,.b 159008024 r1,.b 160008023 r2]
 ·cases q2:Az ps 9<;>rw[q2]at h2 go no
  ·cases q3:Az ps 15<;>rw[q3]at h3 go no
   ·rw[no rfl];exact xI [.b 158008022 h0,.b 158047060 h2,.b 158064078 h3]
   ·rw[go rfl];exact xI [.b 158008022 h0,.b 158047060 h2,.b 158064078 h3,.b 159008024 r1,.b 160008023 r2]
  ·rw[go rfl];exact xI [.b 158008022 h0,.b 158047060 h2,.b 159008024 r1,.b 160008023 r2]
end
end
section
open PySem
theorem S1{x y:PyData}(hx:D8 x=true)(hy:D8 y=true):PyData.eqv x y=true↔x=y:=Qu ⟨rfl,hx⟩ ⟨rfl,hy⟩▸decide_eq_true_iff
theorem dY{row:PyData}(hr:D8 row=true){xs:List PyData}:∀{n t:Nat},(∀x∈xs,D8 x=true)→Co row n xs=some t→n≤t∧xs[t-n]?=some row:=by
 induction xs with
 |nil=>exactλη h=>Ao h
 |cons x xs ih=>
  intro n t hx h
  replace h:(match PyData.eqv x row with|true=>some n|false=>Co row (n+1) xs)=some t:=h
  cases e:PyData.eqv x row with
  |true=>
   rw[e]at h
   cases h
   rw[Nat.sub_self]
   exact⟨Nat.le_refl _,congrArg some ((S1 (hx x (.head _)) hr).mp e)⟩
  |false=>
   rw[e]at h
   have q:=ih (λx h=>hx x (.tail _ h)) h
   exact⟨Nat.le_of_succ_le q.1,by rw[← Nat.succ_sub_succ_eq_sub,Nat.succ_sub q.1];exact q.2⟩
theorem dZ{row:PyData}(hr:D8 row=true){xs:List PyData}:∀{n:Nat},(∀x∈xs,D8 x=true)→Co row n xs=none→row∉xs:=by
 induction xs with
 |nil=>exactλη η=>List.not_mem_nil
 |cons x xs ih=>
  intro n hx h
  replace h:(match PyData.eqv x row with|true=>some n|false=>Co row (n+1) xs)=none:=h
  cases e:PyData.eqv x row with
  |true=>rw[e]at h;exact Ao h.symm
  |false=>
   rw[e]at h
   exactλhm=>(Mw hm).elim (λq=>by rw[← q,(S1 hr hr).mpr rfl]at e;exact Bool.noConfusion e) (ih (λx h=>hx x (.tail _ h)) h)
structure Wf(ext:List PyData):Prop where
 rk:∀row∈base++ext,D8 row=true
 nodup:(base++ext).Nodup
theorem c8:∀row∈base,D8 row=true:=by decide +kernel
theorem iJ{l:List PyData}(h:∀row∈l,D8 row=true)(k:l.Pairwise λx y=>PyData.eqv x y=false):l.Nodup:=by
 refine List.Pairwise.imp_of_mem (λ{x y} hx hy e c=>?_) k
 subst c
 rw[(S1 (h _ hx) (h _ hx)).mpr rfl]at e
 cases e
theorem Yu:base.Nodup:=iJ c8 (by decide +kernel)
theorem Wf.nil:Wf []:=⟨by rw[List.append_nil];exact c8,by rw[List.append_nil];exact Yu⟩
theorem Wf.snoc{ext:List PyData}(w:Wf ext){row:PyData}(hr:D8 row=true)(hn:row∉base++ext):Wf (ext++[row]):=by
 constructor
 ·intro x hx
  rw[← List.append_assoc,List.mem_append]at hx
  rcases hx with hx|hx
  ·exact w.rk x hx
  ·rw[Hd hx];exact hr
 ·rw[← List.append_assoc,List.nodup_append]
  refine⟨w.nodup,by simp,λa ha b hb e=>?_⟩
  rw[Hd hb]at e
  exact hn (e▸ha)
structure Tb(n:Nat)(ext:List PyData):Prop where
 wf:Wf ext
 lim:ext.length+n≤8000000
structure Gr(n:Nat)(ext ext':List PyData):Prop where
 pre:∃l,ext'=ext++l∧l.length≤n
 wf:Wf ext'
theorem Gr.refl{ext:List PyData}(w:Wf ext):Gr 0 ext ext:=⟨⟨[],by simp,Nat.le_refl _⟩,w⟩
theorem Gr.trans{n m:Nat}{a b c:List PyData}(h:Gr n a b)(k:Gr m b c):Gr (n+m) a c:=by
 obtain⟨⟨l,rfl,hl⟩,_⟩:=h
 obtain⟨⟨r,rfl,hr⟩,w⟩:=k
 exact⟨⟨l++r,List.append_assoc _ _ _,by rw[List.length_append];omega⟩,w⟩
theorem Gr.le{n m:Nat}{a b:List PyData}(h:Gr n a b)(k:n≤m):Gr m a b:=by
 obtain⟨⟨l,e,hl⟩,w⟩:=h
 exact⟨⟨l,e,Ag hl k⟩,w⟩
theorem Tb.le{n m:Nat}{a:List PyData}(h:Tb n a)(k:m≤n):Tb m a:=⟨h.wf,Ag (Nat.add_le_add_left k _) h.lim⟩
theorem Tb.gr{n m:Nat}{a b:List PyData}(h:Tb (n+m) a)(k:Gr n a b):Tb m b:=by
 obtain⟨⟨l,rfl,hl⟩,w⟩:=k
 refine⟨w,?_⟩
 have:=h.lim
 rw[List.length_append]
 omega
theorem Gr.row{n:Nat}{a b:List PyData}(h:Gr n a b){t:Nat}{row:PyData}(e:B9 a t=some row):B9 b t=some row:=by
 obtain⟨⟨l,rfl,_⟩,_⟩:=h
 unfold B9 at e⊢
 rw[← List.append_assoc,List.getElem?_append_left (dU e).1]
 exact e
theorem Gr.ext{n:Nat}{a b:List PyData}(h:Gr n a b){t:Nat}{row:PyData}(e:a[t]?=some row):b[t]?=some row:=by
 obtain⟨⟨l,rfl,_⟩,_⟩:=h
 rw[List.getElem?_append_left (dU e).1]
 exact e
theorem Ae.mono{n:Nat}{a b:List PyData}(h:Gr n a b){t c:Nat}(p:Ae a t c):Ae b t c:=by
 cases p with
 |base h=>exact .base h
 |inter h1 h2=>exact .inter h1 (h.ext h2)
theorem K.mono{n:Nat}{a b:List PyData}(h:Gr n a b){t:Nat}{ps:List Nat}(k:K a t ps):K b t ps:=by
 cases k with
 |never=>exact .never
 |one p=>exact .one (p.mono h)
 |many h1 h2 h3 h4=>exact .many (h.row h1) h2 h3 λp hp=>by obtain⟨c,hc⟩:=h4 p hp;exact⟨c,hc.mono h⟩
theorem Mx{n:Nat}{a b:List PyData}(h:Gr n a b){t c:Nat}(p:Ae a t c):A5 b t=A5 a t:=by rw[Aq p,Aq (p.mono h)]
section
variable(k:Nat){ext:List PyData}(tl:Sg)
theorem Nf{ks:List PyData}(b:Tb 1 ext)(hk:D8 (.tuple ks)=true):∃t ext',(cx (k+1)).call "TypeTable.put" [Ad,(.d (.tuple ks),.cl)] (St ext tl)=some ((.d (iN t),.cl),St ext' tl)∧Gr 1 ext ext'∧B9 ext' t=some (.tuple ks):=by
 cases e:Co (.tuple ks) 0 (base++ext)with
 |some t=>exact⟨t,ext,qU k tl hk e,(Gr.refl b.wf).le (by decide),(dY hk b.wf.rk e).2⟩
 |none=>
  have hl:room ((base++ext).length+1)=true:=by
   have:=b.lim
   show Nat.ble ((base++ext).length+1) 8388608=true
   rw[List.length_append,Nat.ble_eq]
   have:base.length=34:=rfl
   omega
  refine⟨_,_,iL k tl hk e hl,⟨⟨_,rfl,Nat.le_refl _⟩,b.wf.snoc hk (dZ hk b.wf.rk e)⟩,?_⟩
  unfold B9
  rw[← List.append_assoc,List.getElem?_append_right (Nat.le_refl _),Nat.sub_self]
  rfl
end
theorem B8{t:Nat}(h:t∈A0):t<34:=(by decide:∀t∈A0,t<34) t h
theorem Zt{ext:List PyData}(w:Wf ext){s t:Nat}{row:PyData}(h:B9 ext s=some row)(h':B9 ext t=some row):s=t:=by
 unfold B9 at h h'
 exact(List.getElem?_inj (dU h).1 w.nodup).mp (h.trans h'.symm)
theorem Ty{ext:List PyData}(w:Wf ext){s t c:Nat}(h:Ae ext s c)(h':Ae ext t c):s=t:=by
 cases h with
 |base h=>cases h' with
  |base _=>rfl
  |inter h1 h2=>have:=B8 h;omega
 |inter h1 h2=>cases hc:h' with
  |base h=>have:=B8 h;omega
  |inter h3 h4=>
   rw[h1]at h3
   cases h3
   exact Zt w (Ey.trans h2) (Ey.trans h4)
theorem K.sorted{ext:List PyData}{t:Nat}{ps:List Nat}(h:K ext t ps):ps.Pairwise (· <·):=by
 cases h with
 |never=>exact .nil
 |one _=>simp
 |many _ _ h _=>exact h
theorem Qj{ps qs:List Nat}(h:Bz ps=Bz qs):ps=qs:=by
 unfold Bz T at h
 simp only[PyData.tuple.injEq,List.cons.injEq,and_true,true_and]at h
 exact(List.map_inj_right (f:=iN) (λa b e=>by injection e with e;exact Int.ofNat.inj e)).mp h
theorem T3{ext:List PyData}{ps:List Nat}:B9 ext 2≠some (Bz ps):=λh=>T2 h
theorem Tw{ext:List PyData}{t c:Nat}(h:Ae ext t c){ps:List Nat}:B9 ext t≠some (Bz ps):=by
 intro e
 cases h with
 |base h=>
  have key:∀t∈A0,(match base[t]? with|some (.tuple (.int 6::_))=>true|_=>false)=false:=by decide +kernel
  have:=key _ h
  rw[Df (B8 h)]at e
  rw[e]at this
  cases this
 |inter h1 h2=>
  rw[Ey,h2]at e
  cases e
theorem K.inj{ext:List PyData}(w:Wf ext){s t:Nat}{ps:List Nat}(h:K ext s ps)(h':K ext t ps):s=t:=by
 cases h with
 |never=>cases h' with
  |never=>rfl
  |many _ h2 _ _=>simp at h2
 |one h=>cases h' with
  |one _=>rfl
  |many _ h2 _ _=>simp at h2
 |many h1 h2 h3 h4=>cases h' with
  |never=>simp at h2
  |one _=>simp at h2
  |many h5 _ _ _=>exact Zt w h1 h5
noncomputable def R(ext:List PyData)(t:Nat)(S:Nat→Bool):Prop:=∃ps,K ext t ps∧∀c,S c=ps.any λp=>Nat.beq (A5 ext p) c
theorem Bw{α:Type}{f g:α→Bool}:∀{l:List α},(∀x∈l,f x=g x)→l.any f=l.any g
 |[],_=>rfl
 |a::l,h=>by rw[List.any_cons,List.any_cons,h a (.head _),Bw λx hx=>h x (.tail _ hx)]
theorem R.mono{n:Nat}{a b:List PyData}(h:Gr n a b){t:Nat}{S:Nat→Bool}(r:R a t S):R b t S:=by
 obtain⟨ps,k,e⟩:=r
 refine⟨ps,k.mono h,λc=>?_⟩
 rw[e c]
 have:∀p∈ps,A5 b p=A5 a p:=λp hp=>Mx h (k.parts p hp)
 clear e
 exact Bw λp hp=>by rw[this p hp]
theorem F3:∀{l m:List Nat},l.Pairwise (· <·)→m.Pairwise (· <·)→(∀x,x∈l↔x∈m)→l=m:=by
 intro l m hl hm h
 have nl:l.Nodup:=hl.imp λh=>Nat.ne_of_lt h
 have nm:m.Nodup:=hm.imp λh=>Nat.ne_of_lt h
 exact((List.perm_ext_iff_of_nodup nl nm).mpr h).eq_of_pairwise (le:=(· <·)) (λa b η η h1 h2=>absurd h1 (Nat.lt_asymm h2)) hl hm
theorem R.inj{ext:List PyData}(w:Wf ext){s t:Nat}{S:Nat→Bool}(h:R ext s S)(h':R ext t S):s=t:=by
 obtain⟨ps,k,e⟩:=h
 obtain⟨qs,k',e'⟩:=h'
 have key:∀{ps qs:List Nat}{s t:Nat},K ext s ps→K ext t qs→(∀c,(ps.any λp=>Nat.beq (A5 ext p) c)=qs.any λp=>Nat.beq (A5 ext p) c)→∀x,x∈ps→x∈qs:=by
  intro ps qs s t k k' e x hx
  have:=e (A5 ext x)
  rw[(List.any_eq_true (p:=λp=>Nat.beq (A5 ext p) (A5 ext x))).mpr ⟨x,hx,Nat.beq_refl _⟩]at this
  obtain⟨y,hy,e2⟩:=eY this.symm
  have e2:=Bu e2
  have p1:=k.parts x hx
  have p2:=k'.parts y hy
  rw[e2]at p2
  rw[Ty w p1 p2]
  exact hy
 have hs:ps=qs:=F3 k.sorted k'.sorted λx=>⟨key k k' (λc=>(e c).symm.trans (e' c)) x,key k' k (λc=>(e' c).symm.trans (e c)) x⟩
 subst hs
 exact k.inj w k'
end
section
open PySem
noncomputable def U9(i:Nat):List Nat→List Nat
 |[]=>[i]
 |j::r=>match Nat.ble j i with|true=>j::U9 i r|false=>i::j::r
noncomputable def Dz:List Nat→List Nat
 |[]=>[]
 |i::r=>U9 i (Dz r)
theorem A96(i j:Nat):decide (Int.ofNat j≤Int.ofNat i)=Nat.ble j i:=Bool.eq_iff_iff.mpr ⟨λh=>Sc (Int.ofNat_le.mp (of_decide_eq_true h)),λh=>decide_eq_true (Int.ofNat_le.mpr (Nat.le_of_ble_eq_true h))⟩
theorem sU(i:Nat)(l:List Nat):ins (Int.ofNat i) (l.map Int.ofNat)=(U9 i l).map Int.ofNat:=by
 induction l with
 |nil=>rfl
 |cons j r ih=>
  show(match decide (Int.ofNat j≤Int.ofNat i)with|true=>Int.ofNat j::ins (Int.ofNat i) (r.map Int.ofNat)|false=>Int.ofNat i::Int.ofNat j::r.map Int.ofNat)=(match Nat.ble j i with|true=>j::U9 i r|false=>i::j::r).map Int.ofNat
  rw[A96]
  cases Nat.ble j i
  ·rfl
  ·exact congrArg (List.cons _) ih
theorem dL(l:List Nat):Q1 (l.map Int.ofNat)=(Dz l).map Int.ofNat:=by
 induction l with
 |nil=>rfl
 |cons i r ih=>exact(congrArg (ins (Int.ofNat i)) ih).trans (sU i _)
theorem Ps(i:Nat)(l:List Nat):(U9 i l).Perm (i::l):=by
 induction l with
 |nil=>exact .refl _
 |cons j r ih=>
  show(match Nat.ble j i with|true=>j::U9 i r|false=>i::j::r).Perm _
  cases Nat.ble j i
  ·exact .refl _
  ·exact(ih.cons j).trans (.swap i j r)
theorem Xh(l:List Nat):(Dz l).Perm l:=by
 induction l with
 |nil=>exact .nil
 |cons i r ih=>exact(Ps i _).trans (ih.cons i)
theorem Dj{x:Nat}{l:List Nat}:x∈Dz l↔x∈l:=(Xh l).mem_iff
theorem U8{i:Nat}{l:List Nat}:i∉l→l.Pairwise (· <·)→(U9 i l).Pairwise (· <·):=by
 induction l with
 |nil=>exactλη η=>List.pairwise_singleton _ _
 |cons j r ih=>
  intro hi h
  have h':=List.pairwise_cons.mp h
  show(match Nat.ble j i with|true=>j::U9 i r|false=>i::j::r).Pairwise _
  cases e:Nat.ble j i
  ·have lt:i<j:=Nat.lt_of_not_le λh=>Bool.noConfusion (e.symm.trans (Sc h))
   exact List.pairwise_cons.mpr ⟨λx hx=>(Mw hx).elim (λq=>q▸lt) λq=>Nat.lt_trans lt (h'.1 x q),h⟩
  ·exact List.pairwise_cons.mpr ⟨λx hx=>(Mw ((Ps i r).mem_iff.mp hx)).elim (λq=>q▸Nat.lt_of_le_of_ne (Nat.le_of_ble_eq_true e) λq=>hi (q▸.head _)) (h'.1 x),ih (λh=>hi (.tail _ h)) h'.2⟩
theorem Jv{l:List Nat}:l.Nodup→(Dz l).Pairwise (· <·):=by
 induction l with
 |nil=>exactλη=>.nil
 |cons i r ih=>exactλh=>U8 (λq=>(List.nodup_cons.mp h).1 (Dj.mp q)) (ih (List.nodup_cons.mp h).2)
theorem Uw:∀l:List Nat,K3 (l.map iN)=some (l.map Int.ofNat)
 |[]=>rfl
 |p::ps=>by simp only[List.map_cons,K3,Uw ps]
theorem Zo{l:List Nat}(h:l.length≤60):srt (l.map iN)=some ((Dz l.reverse).map iN):=by
 unfold srt
 rw[Uw]
 dsimp only
 rw[List.length_map,Sc h]
 dsimp only
 rw[← List.map_reverse,dL,List.map_map]
 rfl
noncomputable def addAll(acc ps:List Nat):List Nat:=ps.foldl (λa p=>Im p a) acc
theorem Gc{ps:List Nat}{x:Nat}:Az ps (Int.ofNat x)=true↔x∈ps:=by
 unfold Az
 rw[List.any_eq_true]
 constructor
 ·rintro⟨p,hp,e⟩
  have:p=x:=Int.ofNat.inj (eq_of_beq e)
  exact this▸hp
 ·exactλh=>⟨x,h,beq_self_eq_true _⟩
theorem Ke{x p:Nat}{ps:List Nat}:p∈Im x ps↔p=x∨p∈ps:=by
 unfold Im
 cases e:Az ps (Int.ofNat x)with
 |true=>
  have m:x∈ps:=Gc.mp e
  exact⟨.inr,λh=>h.elim (λq=>(q.symm▸m:p∈ps)) id⟩
 |false=>exact List.mem_append.trans (or_comm.trans (or_congr List.mem_singleton Iff.rfl))
theorem Os{x:Nat}{ps:List Nat}(h:ps.Nodup):(Im x ps).Nodup:=by
 unfold Im
 cases e:Az ps (Int.ofNat x)with
 |true=>exact h
 |false=>
  have:x∉ps:=λc=>by rw[Gc.mpr c]at e;cases e
  rw[List.nodup_append]
  refine⟨h,by simp,λa ha b hb c=>?_⟩
  rw[Hd hb]at c
  exact this (c▸ha)
theorem Yz{p:Nat}{ps acc:List Nat}:p∈addAll acc ps↔p∈acc∨p∈ps:=by
 induction ps generalizing acc with
 |nil=>exact⟨.inl,λh=>h.elim id λh=>absurd h List.not_mem_nil⟩
 |cons x ps ih=>exact(ih.trans (or_congr Ke Iff.rfl)).trans ⟨λh=>h.elim (λh=>h.elim (λq=>.inr (q▸.head _)) .inl) λh=>.inr (.tail _ h),λh=>h.elim (λh=>.inl (.inr h)) λh=>(Mw h).elim (λq=>.inl (.inl q)) .inr⟩
theorem Sp{ps acc:List Nat}:acc.Nodup→(addAll acc ps).Nodup:=by
 induction ps generalizing acc with
 |nil=>exact id
 |cons x ps ih=>exactλh=>ih (Os (x:=x) h)
noncomputable def Sn(pf:Nat→List Nat)(ts acc:List Nat):List Nat:=ts.foldl (λa t=>addAll a (pf t)) acc
theorem Op{pf:Nat→List Nat}{p:Nat}{ts acc:List Nat}:p∈Sn pf ts acc↔p∈acc∨∃t∈ts,p∈pf t:=by
 induction ts generalizing acc with
 |nil=>exact⟨.inl,λh=>h.elim id λh=>h.elim λη q=>absurd q.1 List.not_mem_nil⟩
 |cons t ts ih=>exact(ih.trans (or_congr Yz Iff.rfl)).trans ⟨λh=>h.elim (λh=>h.imp id λq=>⟨t,.head _,q⟩) λh=>.inr (h.imp λη q=>⟨.tail _ q.1,q.2⟩),λh=>h.elim (λh=>.inl (.inl h)) λh=>h.elim λη q=>(Mw q.1).elim (λe=>.inl (.inr (e▸q.2))) λe=>.inr ⟨_,e,q.2⟩⟩
theorem Oo{pf:Nat→List Nat}{ts acc:List Nat}:acc.Nodup→(Sn pf ts acc).Nodup:=by
 induction ts generalizing acc with
 |nil=>exact id
 |cons t ts ih=>exactλh=>ih (Sp (ps:=pf t) h)
theorem K4{ext:List PyData}(w:Wf ext){ps:List Nat}(hn:ps.Nodup)(h:∀p∈ps,∃c,Ae ext p c):ps.length≤38:=by
 have h1:(ps.map (A5 ext)).Nodup:=by
  refine List.pairwise_map.mpr (List.Pairwise.imp_of_mem (λ{x y} hx hy hne e=>hne ?_) hn)
  obtain⟨c,hc⟩:=h x hx
  obtain⟨d,hd⟩:=h y hy
  rw[Aq hc,Aq hd]at e
  rw[← e]at hd
  exact Ty w hc hd
 have h2:=List.Nodup.length_le_of_subset (l₂:=List.range 38) h1 λc hc=>by
  obtain⟨p,hp,rfl⟩:=aG hc
  obtain⟨c,hc⟩:=h p hp
  rw[Aq hc]
  exact En (C3 hc)
 simpa using h2
noncomputable def P1(ext:List PyData)(ps:List Nat):Prop:=ps.Nodup∧∀p∈ps,∃c,Ae ext p c
theorem P1.nil{ext:List PyData}:P1 ext []:=⟨List.nodup_nil,λη h=>by cases h⟩
theorem P1.add{ext:List PyData}{ps:List Nat}{x:Nat}(h:P1 ext ps)(hx:∃c,Ae ext x c):P1 ext (Im x ps):=
 ⟨Os h.1,λp hp=>by
  rcases Ke.mp hp with rfl|hp
  ·exact hx
  ·exact h.2 p hp⟩
theorem P1.addAll{ext:List PyData}{ps:List Nat}:∀{acc:List Nat},P1 ext acc→(∀p∈ps,∃c,Ae ext p c)→P1 ext (Mine.addAll acc ps):=by
 induction ps with
 |nil=>exactλh η=>h
 |cons p ps ih=>exactλh k=>ih (h.add (k p (.head _))) λq hq=>k q (.tail _ hq)
theorem K.pts{ext:List PyData}{t:Nat}{ps:List Nat}(h:K ext t ps):∀p∈ps,∃c,Ae ext p c:=λp hp=>⟨_,h.parts p hp⟩
noncomputable def Hk(ext:List PyData)(ids:List Nat)(p:Nat):Bool:=!Az ids (Ik (A5 ext p))&&!Az ids (Hj (A5 ext p))
noncomputable def uN(ext:List PyData)(ids:List Nat):List Nat:=match decide (Hl ids≥0)with
 |true=>[(Hl ids).toNat]
 |false=>(Dz (Bt ids).reverse).filter (Hk ext (Bt ids))
theorem B65{ext:List PyData}{ids:List Nat}(h:P1 ext ids):Az ids 13=false:=by
 cases e:Az ids 13 with
 |false=>rfl
 |true=>
  obtain⟨c,hc⟩:=h.2 13 (Gc.mp e)
  cases hc with
  |base h=>exact absurd h (by decide)
theorem T5{ext:List PyData}{ids:List Nat}(hp:P1 ext ids)(h:0≤Hl ids):Ae ext (Hl ids).toNat (Hl ids).toNat:=by
 unfold Hl at h⊢
 rw[B65 hp]at h⊢
 split at h<;>first|exact .base (by decide)|(exact absurd h (by decide))|(rename_i c;cases c)
theorem Kz{ext:List PyData}{ids:List Nat}(h:P1 ext ids):P1 ext (Bt ids):=by
 unfold Bt
 split
 ·exact(h.add ⟨8,.base (by decide)⟩).add ⟨9,.base (by decide)⟩
 ·exact h
theorem T1(ps:List Nat):D8 (.tuple [.int 6,.tuple (ps.map iN)])=true:=by
 show((ps.map iN).all (Hr 6)&&true)=true
 rw[Bool.and_true]
 induction ps with
 |nil=>rfl
 |cons p ps ih=>exact ih
theorem N9{ids:List Nat}(h:ids.length≤38)(kd:Kd)(σ:Sg):Gj .srt [(V.d (Hh ids),kd)] σ=some (.d (.list ((Dz ids.reverse).map iN)),.fr):=by
 show o1 (srt ((ids.map λp=>(iN p,PyData.int 1)).map (·.1))) _=_
 rw[List.map_map]
 show o1 (srt (ids.map iN)) _=_
 rw[Zo (by omega)];rfl
end
section
open PySem
section
variable(k:Nat){ext:List PyData}(tl:Sg)
noncomputable def oP(acc:List Nat):A1:=[("tab",.val,.o 0),("got",.own,.d (Hh acc))]
theorem Rp{acc:List Nat}{m:A1}(h:lk "tab" m=some (.val,.o 0))(h2:lk "got" m=some (.own,.d (Hh acc)))(h3:lk ".0" m=none):Mf (oP acc) m:=Mf.cons h (Mf.cons h2 (Mf.nil h3))
theorem lT{ext:List PyData}(b:Tb 1 ext){acc:List Nat}(h:P1 ext acc)(p:Nat):some (Lx (iN p)&&room ((acc.map λp=>(iN p,PyData.int 1)).length+1))=some true:=
 congrArg some (by rw[List.length_map];exact Sc (Ag (Nat.succ_le_succ (K4 b.wf h.1 h.2)) (by decide)))
theorem fZ(b:Tb 1 ext){σ:Sg}:∀{ps acc:List Nat},P1 ext acc→(∀p∈ps,∃c,Ae ext p c)→Lp (cx (k+7)) (Eb "union" 173) (Cg "union") (ps.map iN) (oP acc) σ .nx (oP (addAll acc ps)) σ
 |[],_,_,_=>.nil .refl
 |p::ps,acc,ha,h=>by
  have t:Bd (cx (k+7)) (Eb "union" 173) (Cg "union") (iN p) (oP acc) σ .nx [("tab",.val,.o 0),("got",.own,.d (.dict (La (iN p) (.int 1) (acc.map λp=>(iN p,PyData.int 1))))),("part",.val,.d (iN p))] σ:=
   Je [.b 174012025 (lT b ha p)]
  rw[Gf]at t
  exact .go (t.sub .refl (Rp (by kernel_rfl) (by kernel_rfl) (by kernel_rfl))) (fZ b (ha.add (h p (.head _))) λq hq=>h q (.tail _ hq))
theorem fY(b:Tb 1 ext){pf:Nat→List Nat}:∀{ts acc:List Nat},P1 ext acc→(∀t∈ts,K ext t (pf t))→Lp (cx (k+7)) (Eb "union" 172) (Cg "union") (ts.map iN) (oP acc) (St ext tl) .nx (oP (Sn pf ts acc)) (St ext tl)
 |[],_,_,_=>.nil .refl
 |t::ts,acc,ha,h=>by
  have i:∀ρ,Bn ρ [("tab",.val,.o 0),("got",.own,.d (Hh acc)),("t",.val,.d (iN t))]→∃ρ',P9 (rl (cx (k+7))) (Eb "union" 173) (Cg "union") ρ (St ext tl)=some (.nx,ρ',St ext tl)∧Bn ρ' (oP (addAll acc (pf t))):=
   P3 (x:=.tuple ((pf t).map iN)) [.c (Aa _ tl (h t (.head _)))] (by kernel_rfl) (by kernel_rfl) (by kernel_rfl) rfl ((fZ k b ha (h t (.head _)).pts).sub (Rp (by kernel_rfl) (by kernel_rfl) (by kernel_rfl)))
  have s:Bd (cx (k+7)) (Eb "union" 172) (Cg "union") (iN t) (oP acc) (St ext tl) .nx (oP (addAll acc (pf t))) (St ext tl):=Je [.s 173 i]
  exact .go s (fY b (ha.addAll (h t (.head _)).pts) λq hq=>h q (.tail _ hq))
theorem Fz{ts:List Nat}{pf:Nat→List Nat}{x:PyData}{kd:Kd}(hx:Cx x=some (ts.map iN))(b:Tb 1 ext)(h:∀t∈ts,K ext t (pf t)):
  ∃t' ext',(cx (k+8)).call "union" [Ad,(.d x,kd)] (St ext tl)=some ((.d (iN t'),.cl),St ext' tl)∧Gr 1 ext ext'∧K ext' t' (uN ext (Sn pf ts [])):=by
 have ho:P1 ext (Sn pf ts []):=⟨Oo .nil,λp hp=>(Op.mp hp).elim (λh=>absurd h List.not_mem_nil) λ⟨t,ht,hp⟩=>(h t ht).pts p hp⟩
 have o:=fY k tl b P1.nil h
 generalize Sn pf ts []=acc at ho o
 have lo:∀sk,(sk=.val∨sk=.bor)→∀ρ,Bn ρ [("tab",.val,.o 0),("parts",sk,.d x),("got",.own,.d (Hh []))]→∃ρ',P9 (rl (cx (k+7))) (Eb "union" 172) (Cg "union") ρ (St ext tl)=some (.nx,ρ',St ext tl)∧Bn ρ' (oP acc):=by
  rintro sk (rfl|rfl)<;>exact P3 (x:=x) [] (by kernel_rfl) (by kernel_rfl) (by kernel_rfl) hx (o.sub (Rp (by kernel_rfl) (by kernel_rfl) (by kernel_rfl)))
 have lo1:=lo .val (.inl rfl)
 have lo2:=lo .bor (.inr rfl)
 have tp:=T4 (k+6) acc "got" (St ext tl)
 unfold uN
 cases hc:decide (Hl acc≥0)
 case true=>
  have e:(cx (k+8)).call "union" [Ad,(.d x,kd)] (St ext tl)=some ((.d (.int (Hl acc)),.cl),St ext tl):=by
   cases kd
   case cl=>exact xF [.s 172 lo1,.c (tp),.t 176007015 hc]
   case al=>exact xF [.s 172 lo2,.c (tp),.t 176007015 hc]
   case fr=>exact xF [.s 172 lo1,.c (tp),.t 176007015 hc]
  have hc':=of_decide_eq_true hc
  exact⟨(Hl acc).toNat,ext,by rw[e,show Hl acc=Int.ofNat (Hl acc).toNat from(Int.toNat_of_nonneg hc').symm];rfl,(Gr.refl b.wf).le (by decide),.one (T5 ho hc')⟩
 have hj:=Kz ho
 have jn:=Pz (k+6) acc (St ext tl) (Nat.lt_of_le_of_lt (K4 b.wf ho.1 ho.2) (by decide))
 have cm:∀ρ,Bn ρ [("tab",.val,.o 0),("got",.own,.d (Hh (Bt acc))),("top",.val,.d (.int (Hl acc)))]→J7 (rl (cx (k+7))) (lc "union" 179011064) (Cg "union") ρ (St ext tl)=some ((.d (.list (((Dz (Bt acc).reverse).filter (Hk ext (Bt acc))).map iN)),.fr),St ext tl):=by
  refine xC [.v 179023034 (N9 (K4 b.wf hj.1 hj.2) (.al "got") (St ext tl))] (by kernel_rfl) (by kernel_rfl) (Fo.filt (i:=iN) λp hp=>?_)
  have st:=Wx (k+2) tl (E7 (hj.2 p (List.mem_reverse.mp (Dj.mp hp))).choose_spec) (Bt acc) "got"
  change _=some ((V.d (.bool (Hk ext (Bt acc) p)),Kd.cl),St ext tl)at st
  cases e:Hk ext (Bt acc) p<;>rw[e]at st<;>exact xT [.c st]
 have hs:((Dz (Bt acc).reverse).filter (Hk ext (Bt acc))).Pairwise (· <·):=(Jv ((List.reverse_perm _).nodup_iff.mpr hj.1)).sublist List.filter_sublist
 have hm:∀p∈(Dz (Bt acc).reverse).filter (Hk ext (Bt acc)),∃c,Ae ext p c:=λp hp=>hj.2 p (List.mem_reverse.mp (Dj.mp (M0 hp).1))
 show∃t' ext',_∧_∧K ext' t' ((Dz (Bt acc).reverse).filter (Hk ext (Bt acc)))
 generalize(Dz (Bt acc).reverse).filter (Hk ext (Bt acc))=kept at cm hs hm
 have hlen:kept.length≤38:=K4 b.wf (hs.imp λh=>Nat.ne_of_lt h) hm
 obtain _|⟨p,_|⟨q,r⟩⟩:=kept
 ·refine⟨2,ext,?_,(Gr.refl b.wf).le (by decide),.never⟩
  cases kd
  case cl=>exact xF [.s 172 lo1,.c (tp),.t 176007015 hc,.i (jn),.e 179011064 cm]
  case al=>exact xF [.s 172 lo2,.c (tp),.t 176007015 hc,.i (jn),.e 179011064 cm]
  case fr=>exact xF [.s 172 lo1,.c (tp),.t 176007015 hc,.i (jn),.e 179011064 cm]
 ·refine⟨p,ext,?_,(Gr.refl b.wf).le (by decide),.one (hm p (.head _)).choose_spec⟩
  cases kd
  case cl=>exact xF [.s 172 lo1,.c (tp),.t 176007015 hc,.i (jn),.e 179011064 cm]
  case al=>exact xF [.s 172 lo2,.c (tp),.t 176007015 hc,.i (jn),.e 179011064 cm]
  case fr=>exact xF [.s 172 lo1,.c (tp),.t 176007015 hc,.i (jn),.e 179011064 cm]
 ·obtain⟨t',ext',e,g,hr⟩:=Nf (k+6) tl b (ks:=[.int 6,.tuple ((p::q::r).map iN)]) (T1 _)
  refine⟨t',ext',?_,g,.many hr (Nat.le_add_left 2 _) hs λx hx=>(hm x hx).imp λη hc=>hc.mono g⟩
  have l1:decide ((((p::q::r).map iN).length:Int)=1)=false:=decide_eq_false (by rw[List.length_map,List.length_cons,List.length_cons];omega)
  have l2:decide ((400:Int) <(((p::q::r).map iN).length:Int))=false:=decide_eq_false (by rw[List.length_map];omega)
  cases kd
  case cl=>exact xF [.s 172 lo1,.c (tp),.t 176007015 hc,.i (jn),.e 179011064 cm,.t 184007028 l2,.c (e)]
  case al=>exact xF [.s 172 lo2,.c (tp),.t 176007015 hc,.i (jn),.e 179011064 cm,.t 184007028 l2,.c (e)]
  case fr=>exact xF [.s 172 lo1,.c (tp),.t 176007015 hc,.i (jn),.e 179011064 cm,.t 184007028 l2,.c (e)]
end
end
section
open PySem
noncomputable abbrev CS:=Nat→Bool
noncomputable def A7(S:CS):CS:=λc=>S c||((Nat.beq 8 c||Nat.beq 9 c)&&((S 8||S 14)&&(S 9||S 15)))
noncomputable def E4(S:CS):Int→Bool
 |.ofNat c=>S c
 |.negSucc _=>false
noncomputable def N(S:CS):CS:=λc=>match S 0 with
 |true=>Nat.beq 0 c
 |false=>match S 1 with
  |true=>Nat.beq 1 c
  |false=>A7 S c&&(!E4 (A7 S) (Ik c)&&!E4 (A7 S) (Hj c))
noncomputable def A9(ext:List PyData)(ids:List Nat):CS:=λc=>ids.any λp=>Nat.beq (A5 ext p) c
theorem Ba{ext:List PyData}{ids:List Nat}{c:Nat}:A9 ext ids c=true↔∃p∈ids,A5 ext p=c:=by
 unfold A9
 rw[List.any_eq_true]
 exact⟨λ⟨p,h,e⟩=>⟨p,h,Bu e⟩,λ⟨p,h,e⟩=>⟨p,h,by rw[e];exact Nat.beq_refl _⟩⟩
theorem F9{ext:List PyData}{p c:Nat}(h:Ae ext p c)(hc:c<34):p=c:=by
 cases h with
 |base _=>rfl
 |inter _ _=>omega
theorem bZ{ext:List PyData}{p c:Nat}(h:Ae ext p c)(hp:p<34):p=c:=by
 cases h with
 |base _=>rfl
 |inter _ _=>omega
theorem H8{ext:List PyData}{ids:List Nat}(h:P1 ext ids){c:Nat}(hc:c<34):Az ids (Int.ofNat c)=A9 ext ids c:=by
 rw[Bool.eq_iff_iff,Gc,Ba]
 constructor
 ·intro hm
  obtain⟨d,hd⟩:=h.2 c hm
  have:=bZ hd hc
  subst this
  exact⟨c,hm,Aq hd⟩
 ·rintro⟨p,hp,e⟩
  obtain⟨d,hd⟩:=h.2 p hp
  rw[Aq hd]at e
  subst e
  exact(F9 hd hc)▸hp
theorem Rk{ids:List Nat}{n:Nat}:Az ids (Int.negSucc n)=false:=by
 unfold Az
 induction ids with
 |nil=>rfl
 |cons p ps ih=>rw[List.any_cons,ih];rfl
theorem b9{ext:List PyData}{ids:List Nat}(h:P1 ext ids){x:Int}(hx:x<34):Az ids x=E4 (A9 ext ids) x:=by
 cases x with
 |ofNat c=>exact H8 h (by have:=hx;exact Int.ofNat_lt.mp this)
 |negSucc n=>exact Rk
theorem Ut{ext:List PyData}{ids:List Nat}(h:P1 ext ids)(c:Nat):A9 ext (Bt ids) c=A7 (A9 ext ids) c:=by
 have e8:A5 ext 8=8:=rfl
 have e9:A5 ext 9=9:=rfl
 have key:((Az ids 8||Az ids 14)&&(Az ids 9||Az ids 15))=((A9 ext ids 8||A9 ext ids 14)&&(A9 ext ids 9||A9 ext ids 15)):=by
  rw[← H8 h (show 8<34 by decide),← H8 h (show 14<34 by decide),← H8 h (show 9<34 by decide),← H8 h (show 15<34 by decide)]
  rfl
 unfold A7 Bt
 rw[← key]
 cases(Az ids 8||Az ids 14)&&(Az ids 9||Az ids 15)with
 |false=>simp
 |true=>
  rw[Bool.eq_iff_iff]
  simp only[Bool.and_true,Bool.or_eq_true,Ba,Ke]
  constructor
  ·rintro⟨p,(rfl|rfl|hp),e⟩
   ·right;right;rw[← e,e9];rfl
   ·right;left;rw[← e,e8];rfl
   ·exact .inl ⟨p,hp,e⟩
  ·rintro(⟨p,hp,e⟩|e|e)
   ·exact⟨p,.inr (.inr hp),e⟩
   ·exact⟨8,.inr (.inl rfl),e8.trans (Bu e)⟩
   ·exact⟨9,.inl rfl,e9.trans (Bu e)⟩
theorem gC(c:Nat):Ik c<34:=Hx (P:=λx:Int=>x<34) (by decide) (by decide) c
theorem fK(c:Nat):Hj c<34:=Hx (P:=λx:Int=>x<34) (by decide) (by decide) c
theorem yD{ext:List PyData}{ids:List Nat}(h:P1 ext ids)(c:Nat):A9 ext (uN ext ids) c=N (A9 ext ids) c:=by
 have h0:Az ids 0=A9 ext ids 0:=H8 h (by decide)
 have h1:Az ids 1=A9 ext ids 1:=H8 h (by decide)
 unfold uN N Hl
 rw[B65 h,h0,h1]
 cases e0:A9 ext ids 0 with
 |true=>exact Bool.or_false _
 |false=>cases e1:A9 ext ids 1 with
  |true=>exact Bool.or_false _
  |false=>
   have hj:=Kz h
   dsimp only
   show A9 ext (List.filter (Hk ext (Bt ids)) (Dz (Bt ids).reverse)) c=_
   rw[← Ut h c,Bool.eq_iff_iff,Bool.and_eq_true,Ba]
   have hst:∀c,Hk ext (Bt ids) c=(!E4 (A7 (A9 ext ids)) (Ik (A5 ext c))&&!E4 (A7 (A9 ext ids)) (Hj (A5 ext c))):=by
    intro c
    have e:A9 ext (Bt ids)=A7 (A9 ext ids):=funext λc=>Ut h c
    unfold Hk
    rw[b9 hj (gC _),b9 hj (fK _),e]
   constructor
   ·intro HH
    refine Ac λXz hXz=>?_
    obtain⟨p,hp,rfl⟩:=HH
    refine hXz ?_
    obtain⟨hp,hs⟩:=M0 hp
    rw[hst]at hs
    exact⟨Ba.mpr ⟨p,List.mem_reverse.mp (Dj.mp hp),rfl⟩,hs⟩
   ·rintro⟨hc,hs⟩
    obtain⟨p,hp,rfl⟩:=Ba.mp hc
    exact⟨p,oR ⟨Dj.mpr (List.mem_reverse.mpr hp),(hst p).trans hs⟩,rfl⟩
theorem K.det{ext:List PyData}{t:Nat}{ps qs:List Nat}(h:K ext t ps)(h':K ext t qs):ps=qs:=by
 have h2:∀c,¬Ae ext 2 c:=by
  intro c h
  cases h with
  |base h=>exact absurd h (by decide)
 cases h with
 |never=>cases h' with
  |never=>rfl
  |one p=>exact absurd p (h2 _)
  |many h _ _ _=>exact absurd h T3
 |one p=>cases h' with
  |never=>exact absurd p (h2 _)
  |one _=>rfl
  |many h _ _ _=>exact absurd h (Tw p)
 |many h _ _ _=>cases h' with
  |never=>exact absurd h T3
  |one p=>exact absurd h (Tw p)
  |many h'' _ _ _=>rw[h]at h'';exact Qj (Cd h'')
noncomputable def B5(Ss:List CS):CS:=λc=>Ss.any λS=>S c
theorem R.ids{ext:List PyData}{t:Nat}{S:CS}(h:R ext t S):∃ps,K ext t ps∧S=A9 ext ps:=let⟨ps,k,e⟩:=h;⟨ps,k,funext e⟩
theorem K.r{ext:List PyData}{t:Nat}{ps:List Nat}(h:K ext t ps):R ext t (A9 ext ps):=⟨ps,h,λη=>rfl⟩
theorem Cy{n:Nat}{a b:List PyData}(h:Gr n a b){ps:List Nat}(hp:∀p∈ps,∃c,Ae a p c):A9 b ps=A9 a ps:=by
 funext c
 exact Bw λp hm=>by obtain⟨c,hc⟩:=hp p hm;rw[Mx h hc]
section
variable(k:Nat){ext:List PyData}(tl:Sg)
set_option tactic.hygienic true in
set_option backward.match.sparseCases true in
theorem B2{ts:List Nat}{Ss:List CS}{x:PyData}{kd:Kd}(hx:Cx x=some (ts.map iN))(b:Tb 1 ext)(h:A6 (R ext) ts Ss):
  ∃t' ext',(cx (k+8)).call "union" [Ad,(.d x,kd)] (St ext tl)=some ((.d (iN t'),.cl),St ext' tl)∧Gr 1 ext ext'∧R ext' t' (N (B5 Ss)):=by
 have hex:∃pf:Nat→List Nat,(∀t∈ts,K ext t (pf t))∧B5 Ss=A9 ext (Sn pf ts []):=by
  have h1:∀t∈ts,∃ps,K ext t ps:=by
   clear hx
   induction h with
   |nil=>intro t ht;cases ht
   |cons r _ ih=>intro t ht;cases ht with
    |head=>exact⟨_,r.choose_spec.1⟩
    |tail _ ht=>exact ih t ht
  refine⟨λt=>Classical.epsilon λps=>K ext t ps,λt ht=>?_,?_⟩
  ·have:=h1 t ht
   exact Classical.epsilon_spec this
  ·funext c
   rw[Bool.eq_iff_iff,Ba]
   unfold B5
   rw[List.any_eq_true]
   simp only[Op,List.not_mem_nil,false_or]
   clear hx h1
   induction h with
   |nil=>simp
   |cons r _ ih=>
    rename_i t S ts Ss _
    simp only[List.mem_cons,exists_eq_or_imp]
    rw[ih]
    obtain⟨ps,kk,rfl⟩:=r.ids
    have hd:(Classical.epsilon λps=>K ext t ps)=ps:=(Classical.epsilon_spec (p:=λps=>K ext t ps) ⟨ps,kk⟩).det kk
    rw[hd,Ba]
    constructor
    ·rintro(⟨p,hp,e⟩|⟨p,hp,e⟩)
     ·exact⟨p,.inl hp,e⟩
     ·exact⟨p,.inr hp,e⟩
    ·rintro⟨p,hp|hp,e⟩
     ·exact .inl ⟨p,hp,e⟩
     ·exact .inr ⟨p,hp,e⟩
 refine Ac λXz hXz=>?_
 obtain⟨pf,hk,hs⟩:=hex
 obtain⟨t',ext',e,g,kk⟩:=Fz k tl hx b hk
 refine hXz ?_
 have hp:P1 ext (Sn pf ts []):=⟨Oo List.nodup_nil,λp hp=>by
  rcases Op.mp hp with h|⟨t,ht,hp⟩
  ·cases h
  ·exact(hk t ht).pts p hp⟩
 refine⟨t',ext',e,g,_,kk,λc=>?_⟩
 rw[hs,← yD hp c]
 have hu:∀p∈uN ext (Sn pf ts []),∃c,Ae ext p c:=by
  intro p hm
  unfold uN at hm
  split at hm
  ·rename_i h
   rw[Hd hm]
   exact⟨_,T5 hp (of_decide_eq_true h)⟩
  ·exact(Kz hp).2 p (List.mem_reverse.mp (Dj.mp (M0 hm).1))
 rw[← Cy g hu]
 rfl
end
end
section
open PySem
noncomputable def mbL:List Nat:=[0,1,3,4,5,21,35,36,37]
noncomputable def mbC(c:Nat):Bool:=mbL.any λx=>Nat.beq x c
section
variable(k:Nat){ext:List PyData}(tl:Sg)
theorem s9:A0.map (λt=>(cx (k+8)).call "may_be_nullish" [Ad,iV t] (St ext tl))=A0.map (λt=>some ((.d (.bool (mbC t)),.cl),St ext tl)):=by kernel_rfl
theorem s6{t:Nat}(hr:B9 ext t=some (C9 11)):(cx (k+7)).call "meet_may_be_nullish" [Ad,iV t,(.d (.int 0),.cl)] (St ext tl)=some ((.d (.bool false),.cl),St ext tl):=by
 exact xF [.v 426012023 (Bj tl hr)]
theorem aL{t c:Nat}(h:Ae ext t c):(cx (k+8)).call "may_be_nullish" [Ad,iV t] (St ext tl)=some ((.d (.bool (mbC c)),.cl),St ext tl):=by
 have e1:∀i,PyData.eqv (iN (i+34)) (.int 1)=false:=λi=>Cn (b:=1) (by omega)
 have e0:∀i,PyData.eqv (iN (i+34)) (.int 0)=false:=λi=>Cn (b:=0) (by omega)
 have n0:(cx (k+7)).call "is_nullish_family" [(.d (iN (B1 34)),.cl)] (St ext tl)=some ((.d (.bool false),.cl),St ext tl):=by kernel_rfl
 have n1:(cx (k+7)).call "is_nullish_family" [(.d (iN (B1 35)),.cl)] (St ext tl)=some ((.d (.bool true),.cl),St ext tl):=by kernel_rfl
 have n2:(cx (k+7)).call "is_nullish_family" [(.d (iN (B1 36)),.cl)] (St ext tl)=some ((.d (.bool true),.cl),St ext tl):=by kernel_rfl
 have n3:(cx (k+7)).call "is_nullish_family" [(.d (iN (B1 37)),.cl)] (St ext tl)=some ((.d (.bool true),.cl),St ext tl):=by kernel_rfl
 refine C1 (P:=λt c=>Ae ext t c→(cx (k+8)).call "may_be_nullish" [Ad,iV t] (St ext tl)=some ((.d (.bool (mbC c)),.cl),St ext tl)) (λt ht η=>Ay (s9 k tl) ht) ?_ ?_ ?_ ?_ h h<;>intro i hi hp<;>have f1:=e1 i<;>have f0:=e0 i
 ·exact xF [.c (Aa _ tl (.one hp)),.v 408014028 (Bj tl hi),.c (A2 _ tl hp),.c (n0),.c (s6 _ tl hi)]
 ·exact xF [.c (Aa _ tl (.one hp)),.v 408014028 (Bj tl hi),.c (A2 _ tl hp),.c (n1)]
 ·exact xF [.c (Aa _ tl (.one hp)),.v 408014028 (Bj tl hi),.c (A2 _ tl hp),.c (n2)]
 ·exact xF [.c (Aa _ tl (.one hp)),.v 408014028 (Bj tl hi),.c (A2 _ tl hp),.c (n3)]
noncomputable def Fh:List Nat:=[3,4,5,10,11,17,19,20,21]
noncomputable def D0:List (Nat×Nat):=[(21,3),(21,4),(21,5),(21,11),(10,17),(10,19),(10,20),(17,10),(17,20),(19,10),(19,20),(20,10),(20,17),(20,19)]
theorem Ua:Fh.map (λt=>(cx (k+6)).call "members_of_meet" [Ad,iV t] (St ext tl))=Fh.map (λt=>some ((.d (.tuple [iN t]),.cl),St ext tl)):=by kernel_rfl
theorem Pk:Fh.map (λt=>(cx (k+6)).call "regular_one" [Ad,iV t] (St ext tl))=Fh.map (λt=>some ((.d (iN t),.cl),St ext tl)):=by kernel_rfl
theorem kJ:D0.map (λp=>(cx (k+12)).call "lay_on" [Ad,(.d (.list [iN p.1]),.al "kept"),iV p.2] (St ext tl))=D0.map (λp=>some ((.d (.list [iN p.1,iN p.2]),.fr),St ext tl)):=by kernel_rfl
theorem Mr{s t:Nat}(h:(s,t)∈D0)(b:Tb 1 ext):∃t' ext',(cx (k+13)).call "meet_parts" [Ad,iV s,iV t] (St ext tl)=some ((.d (iN t'),.cl),St ext' tl)∧Gr 1 ext ext'∧B9 ext' t'=some (.tuple [.int 7,.tuple [iN s,iN t]]):=by
 have hs:s∈Fh∧t∈Fh:=(by decide:∀p∈D0,p.1∈Fh∧p.2∈Fh) _ h
 obtain⟨t',ext',e,g,hr⟩:=Nf (k+11) tl b (ks:=[.int 7,.tuple [iN s,iN t]]) rfl
 refine⟨t',ext',?_,g,hr⟩
 exact xF [.c (Ay (Ua (k+6) tl (ext:=ext)) hs.1),.c (Ay (Ua (k+6) tl (ext:=ext)) hs.2),.c (Ay (kJ k tl (ext:=ext)) h),.c (Ay (Pk (k+6) tl (ext:=ext)) hs.1),.c (Ay (Pk (k+6) tl (ext:=ext)) hs.2),.c (e)]
theorem Rz{s t:Nat}(h:s≠t):PyData.eqv (iN s) (iN t)=false:=Cn (b:=t) h
theorem Da(s:Nat):PyData.eqv (iN s) (iN s)=true:=beq_self_eq_true (Int.ofNat s)
noncomputable def Es(t:Nat):Prop:=t≠0∧t≠1∧t≠2∧t≠13
theorem Zj{s t:Nat}(hst:s≠t)(ps:Es s)(pt:Es t){ext1 ext2:List PyData}{m u:Nat}(hs:(cx (k+13)).call "parts_of" [Ad,iV s] (St ext tl)=some ((.d (.tuple [iN s]),.cl),St ext tl))
  (ht:(cx (k+13)).call "parts_of" [Ad,iV t] (St ext tl)=some ((.d (.tuple [iN t]),.cl),St ext tl))
  (h1:(cx (k+13)).call "meet_parts" [Ad,iV s,iV t] (St ext tl)=some ((.d (iN m),.cl),St ext1 tl)) (hm:m≠2)
  (hu:(cx (k+13)).call "union" [Ad,(.d (.list [iN m]),.fr)] (St ext1 tl)=some ((.d (iN u),.cl),St ext2 tl)):(cx (k+14)).call "meet_two" [Ad,iV s,iV t] (St ext tl)=some ((.d (iN u),.cl),St ext2 tl):=by
 have e1:=Rz hst
 have e2:PyData.eqv (iN t) (.int 1)=false:=Cn (b:=1) pt.2.1
 have e3:PyData.eqv (iN s) (.int 1)=false:=Cn (b:=1) ps.2.1
 have e4:(!PyData.eqv (iN m) (.int 2))=true:=by rw[show PyData.eqv (iN m) (.int 2)=false from Cn (b:=2) hm];rfl
 exact xF [.t 367007013 e1,.t 367017029 e2,.t 369007019 e3,.c (hs),.c (ht),.c (h1),.t 377015027 e4,.c (hu)]
theorem pN{t x y:Nat}(hx:x≠21)(ht2:t≠21)(pt:t≠1){ext1 ext2 ext3:List PyData}{m m' u:Nat}(ht:(cx (k+13)).call "parts_of" [Ad,iV t] (St ext tl)=some ((.d (.tuple [iN x,iN y]),.cl),St ext tl))
  (h1:(cx (k+13)).call "meet_parts" [Ad,iV 21,iV x] (St ext tl)=some ((.d (iN m),.cl),St ext1 tl)) (h2:(cx (k+13)).call "meet_parts" [Ad,iV 21,iV y] (St ext1 tl)=some ((.d (iN m'),.cl),St ext2 tl)) (hm:m≠2) (hm':m'≠2)
  (hu:(cx (k+13)).call "union" [Ad,(.d (.list ((Dz (Im m' [m]).reverse).map iN)),.fr)] (St ext2 tl)=some ((.d (iN u),.cl),St ext3 tl)):(cx (k+14)).call "meet_two" [Ad,iV 21,iV t] (St ext tl)=some ((.d (iN u),.cl),St ext3 tl):=by
 have e1:PyData.eqv (iN 21) (iN t)=false:=Rz (Ne.symm ht2)
 have e2:PyData.eqv (iN t) (.int 1)=false:=Cn (b:=1) pt
 have hs:(cx (k+13)).call "parts_of" [Ad,iV 21] (St ext tl)=some ((.d (.tuple [iN 21]),.cl),St ext tl):=Aa (k+12) tl (.one (.base (by decide)))
 have e4:(!PyData.eqv (iN m) (.int 2))=true:=by rw[show PyData.eqv (iN m) (.int 2)=false from Cn (b:=2) hm];rfl
 have e5:(!PyData.eqv (iN m') (.int 2))=true:=by rw[show PyData.eqv (iN m') (.int 2)=false from Cn (b:=2) hm'];rfl
 have sg:=N9 (ids:=Im m' [m]) (Ag (W5 _ _) (show 2≤38 by decide)) (.al "found") (St ext2 tl)
 unfold Hh at sg
 rw[← Gf]at sg
 exact xF [.t 367007013 e1,.t 367017029 e2,.c (hs),.c (ht),.c (h1),.t 377015027 e4,.c (h2),.t 377015027 e5,.v 381022035 sg,.c (hu)]
theorem B01{s t b:Nat}(hs:s≠b)(ht:t≠b):([iN s,iN t].any λy=>PyData.eqv y (.int (Int.ofNat b)))=false:=by
 rw[List.any_cons,List.any_cons,Cn hs,Cn ht];rfl
theorem O2{s t:Nat}(hst:s≠t)(ps:Es s)(pt:Es t){ext2:List PyData}{u:Nat}(h:(cx (k+14)).call "meet_two" [Ad,iV s,iV t] (St ext tl)=some ((.d (iN u),.cl),St ext2 tl)):
  (cx (k+15)).call "inter" [Ad,(.d (.tuple [iN s,iN t]),.cl)] (St ext tl)=some ((.d (iN u),.cl),St ext2 tl):=by
 have a1:PyData.eqv (iN s) (.int 1)=false:=Cn (b:=1) ps.2.1
 have h0:(cx (k+14)).call "meet_two" [Ad,(.d (.int 1),.cl),iV s] (St ext tl)=some ((.d (iN s),.cl),St ext tl):=by
  have a2:PyData.eqv (.int 1) (iN s)=false:=Rz (s:=1) (t:=s) (Ne.symm ps.2.1)
  exact xF [.t 367007013 a2,.t 367017029 a1]
 have in2:([iN s,iN t].any λy=>PyData.eqv y (.int 2))=false:=B01 ps.2.2.1 pt.2.2.1
 have in0:([iN s,iN t].any λy=>PyData.eqv y (.int 0))=false:=B01 ps.1 pt.1
 have in13:([iN s,iN t].any λy=>PyData.eqv y (.int 13))=false:=B01 ps.2.2.2 pt.2.2.2
 have nin0:(!(([]:List PyData).any λy=>PyData.eqv y (iN s)))=true:=rfl
 have nin:(!([iN s].any λy=>PyData.eqv y (iN t)))=true:=by
  show(!(PyData.eqv (iN s) (iN t)||false))=true
  rw[Rz hst];rfl
 exact xF [.t 384011021 in2,.t 384011021 in0,.t 384011021 in13,.t 388011044 nin0,.c (h0),.t 388011044 nin,.c (h)]
end
noncomputable def H9(s t:Nat):PyData:=T [I 7,T [iN s,iN t]]
section
variable(k:Nat){ext:List PyData}(tl:Sg)
theorem Yq{m s t:Nat}(hr:B9 ext m=some (H9 s t))(h2:m≠2):(cx (k+1)).call "parts_of" [Ad,iV m] (St ext tl)=some ((.d (.tuple [iN m]),.cl),St ext tl):=by
 have hne:PyData.eqv (iN m) (.int 2)=false:=Cn (b:=2) h2
 exact xF [.t 137007017 hne,.v 139010021 (Bj tl hr)]
theorem eT{m s t:Nat}(hr:B9 ext m=some (H9 s t)):(cx (k+4)).call "regular_twin" [Ad,iV m] (St ext tl)=some ((.d (.int (-1)),.cl),St ext tl):=by
 exact xF [.v 153010021 (Bj tl hr)]
theorem Yn{s t:Nat}:(cx (k+4)).call "whole_of_row" [(.d (H9 s t),.cl)] (St ext tl)=some ((.d (.int (-1)),.cl),St ext tl):=by
 exact xF []
theorem Yp{m s t:Nat}(hr:B9 ext m=some (H9 s t))(g:Str):(cx (k+5)).call "stays_beside" [Ad,(.d (Hh [m]),.al g),iV m] (St ext tl)=some ((.d (.bool true),.cl),St ext tl):=by
 have h1:=eT k tl hr
 have h2:=Yn (s:=s) (t:=t) (ext:=ext) k tl
 have g1:=H7 (σ:=St ext tl) (-1) [m]
 rw[show Az [m] (-1)=false from Rk (ids:=[m]) (n:=0)]at g1
 have g2:=aB (σ:=St ext tl) (-1) [m]
 rw[show Az [m] (-1)=false from Rk (ids:=[m]) (n:=0)]at g2
 exact xF [.c h1,.v 164024035 (Bj tl hr),.c h2]
theorem Yo{m s t:Nat}(hr:B9 ext m=some (H9 s t))(hm:34≤m):(cx (k+8)).call "union" [Ad,(.d (.list [iN m]),.fr)] (St ext tl)=some ((.d (iN m),.cl),St ext tl):=by
 have h1:=Yq (k+6) tl hr (by omega)
 have h2:=Yp (k+2) tl hr "got"
 have hh:∀b,b<34→Az [m] (Int.ofNat b)=false:=λb hb=>by
  cases e:Az [m] (Int.ofNat b)with
  |false=>rfl
  |true=>have:=Hd (Gc.mp e);omega
 have ht:Hl [m]= -1:=by
  unfold Hl
  rw[show Az [m] 0=false from hh 0 (by decide),show Az [m] 13=false from hh 13 (by decide),show Az [m] 1=false from hh 1 (by decide)]
 have hj:Bt [m]=[m]:=by
  unfold Bt
  rw[show Az [m] 8=false from hh 8 (by decide),show Az [m] 14=false from hh 14 (by decide)]
  rfl
 have tp:=T4 (k+6) [m] "got" (St ext tl)
 rw[ht]at tp
 have jn:=Pz (k+6) [m] (St ext tl) (by show 1<1000;decide)
 rw[hj]at jn
 exact xF [.c h1,.c (tp),.i (jn),.c h2]
theorem Q8{m s t:Nat}(hr:B9 ext m=some (H9 s t)):34≤m:=by
 have key:∀t<34,(match base[t]? with|some (.tuple (.int 7::_))=>true|_=>false)=false:=by decide +kernel
 apply Nat.le_of_not_lt
 intro h
 have k:=key m h
 rw[← Df h,hr]at k
 cases k
noncomputable def Dl:List (Nat×Nat×Nat):=[(10,10,10),(11,11,11),(17,17,17),(19,19,19),(20,20,20),(10,11,10),(11,10,10),(11,17,17),(17,11,17),(11,19,19),(19,11,19),(11,20,20),(20,11,20),(17,19,2),(19,17,2),
 (11,6,6),(11,7,7),(11,8,8),(11,9,9),(11,14,14),(11,15,15),(11,16,16),(11,18,18),(11,22,22),(11,23,23),(11,24,24),(11,25,25),(11,26,26),(11,27,27),(11,28,28),(11,29,29),(11,30,30),(11,31,31),(11,32,32),(11,33,33)]
theorem O3:Dl.map (λp=>(cx (k+15)).call "inter" [Ad,(.d (.tuple [iN p.1,iN p.2.1]),.cl)] (St ext tl))=Dl.map (λp=>some ((.d (iN p.2.2),.cl),St ext tl)):=by kernel_rfl
theorem Xw{s t:Nat}(h:(s,t)∈D0)(hs:s≠21)(b:Tb 1 ext):∃t' ext',(cx (k+15)).call "inter" [Ad,(.d (.tuple [iN s,iN t]),.cl)] (St ext tl)=some ((.d (iN t'),.cl),St ext' tl)∧Gr 1 ext ext'∧t'≠2:=by
 have key:s≠t∧Es s∧Es t∧s∈A0∧t∈A0:=by
  have:∀p∈D0,p.1≠p.2∧(p.1≠0∧p.1≠1∧p.1≠2∧p.1≠13)∧(p.2≠0∧p.2≠1∧p.2≠2∧p.2≠13)∧p.1∈A0∧p.2∈A0:=by decide
  exact this _ h
 refine Ac λXz hXz=>?_
 obtain⟨m,ext1,e1,g,hr⟩:=Mr k tl h b
 refine hXz ?_
 have hm:=Q8 (s:=s) (t:=t) hr
 exact⟨m,ext1,O2 k tl key.1 key.2.1 key.2.2.1 (Zj k tl key.1 key.2.1 key.2.2.1 (Aa (k+12) tl (.one (.base key.2.2.2.1))) (Aa (k+12) tl (.one (.base key.2.2.2.2))) e1 (by omega) (Yo (k+5) tl hr hm)),g,by omega⟩
end
noncomputable def one(c:Nat):CS:=λd=>Nat.beq c d
noncomputable def lift(f:Nat→CS)(U:CS):CS:=λc=>(List.range 38).any λd=>U d&&f d c
theorem Al{f:Nat→CS}{U:CS}{c:Nat}:lift f U c=true↔∃d,d<38∧U d=true∧f d c=true:=by
 unfold lift
 rw[List.any_eq_true]
 simp only[List.mem_range,Bool.and_eq_true]
theorem K1{ext:List PyData}{ps:List Nat}(h:∀p∈ps,∃c,Ae ext p c)(f:Nat→CS)(c:Nat):(ps.any λp=>f (A5 ext p) c)=lift f (A9 ext ps) c:=by
 rw[Bool.eq_iff_iff,Al,List.any_eq_true]
 constructor
 ·rintro⟨p,hp,e⟩
  obtain⟨d,hd⟩:=h p hp
  refine⟨A5 ext p,?_,Ba.mpr ⟨p,hp,rfl⟩,e⟩
  rw[Aq hd]
  exact C3 hd
 ·rintro⟨d,_,hd,e⟩
  obtain⟨p,hp,rfl⟩:=Ba.mp hd
  exact⟨p,hp,e⟩
theorem Ae.r{ext:List PyData}{t c:Nat}(h:Ae ext t c):R ext t (one c):=⟨[t],.one h,λd=>by
 rw[List.any_cons,List.any_nil,Bool.or_false,Aq h];rfl⟩
theorem B13{S:CS}(h:∀c,c<34→S c=false):N S=S:=by
 have hj:A7 S=S:=by
  funext c
  unfold A7
  rw[h 8 (by decide),h 14 (by decide)]
  simp
 have hh:∀x:Int,x<34→E4 S x=false:=by
  intro x hx
  cases x with
  |ofNat c=>exact h c (Int.ofNat_lt.mp hx)
  |negSucc n=>rfl
 funext c
 unfold N
 rw[h 0 (by decide),h 1 (by decide),hj]
 dsimp only
 rw[hh _ (gC c),hh _ (fK c)]
 simp
noncomputable def Dq(x:Nat):Nat:=match x with
 |11=>34
 |5=>35
 |4=>36
 |3=>37
 |_=>0
theorem Kr{ext:List PyData}{m x:Nat}(hx:x∈D4)(hr:B9 ext m=some (H9 21 x)):Ae ext m (Dq x)∧m≠2:=by
 have hm:=Q8 hr
 obtain⟨i,rfl⟩:∃i,m=i+34:=⟨m-34,by omega⟩
 rw[Ey]at hr
 have hr:ext[i]?=some (C9 x):=hr
 refine⟨?_,by omega⟩
 have:x=11∨x=5∨x=4∨x=3:=by simpa [D4]using hx
 rcases this with rfl|rfl|rfl|rfl
 ·exact .inter (j:=0) rfl hr
 ·exact .inter (j:=1) rfl hr
 ·exact .inter (j:=2) rfl hr
 ·exact .inter (j:=3) rfl hr
end
section
open PySem
noncomputable def Ep(U:CS):CS:=lift (λd=>one (Dq d)) U
noncomputable def isU:Option PyData→Bool
 |some (.tuple (.int 6::_))=>true
 |_=>false
theorem Ea{ext:List PyData}{o:Nat}{us:List Nat}(hr:B9 ext o=some (Bz us)){n:Nat}(hn:n<34)(h:isU base[n]?=false):o≠n:=λe=>Bool.noConfusion ((congrArg isU (hr.symm.trans ((congrArg (B9 ext) e).trans (Df hn)))).trans h)
theorem rD{ext:List PyData}:∀{hs:List Nat},(∀h∈hs,∃d,Ae ext h d)→A6 (R ext) hs (hs.map λh=>one (A5 ext h))
 |[],_=>.nil
 |_::_,h=>.cons (E7 (h _ (.head _)).choose_spec).r (rD λq hq=>h q (.tail _ hq))
theorem Lf{ext:List PyData}(hs:List Nat):B5 (hs.map λh=>one (A5 ext h))=A9 ext hs:=funext λη=>List.any_map
section
variable(k:Nat){ext:List PyData}(tl:Sg)
theorem Ks{x:Nat}(hx:x∈D4):(21,x)∈D0:=(by decide:∀x∈D4,(21,x)∈D0) x hx
theorem Kt{x:Nat}(hx:x∈D4):x∈A0:=(by decide:∀x∈D4,x∈A0) x hx
theorem E2{x:Nat}(hx:x∈D4):Es x∧x≠21:=(by decide:∀x∈D4,(x≠0∧x≠1∧x≠2∧x≠13)∧x≠21) x hx
theorem Xn{x:Nat}(hx:x∈D4):34≤Dq x:=(by decide:∀x∈D4,34≤Dq x) x hx
theorem jS{xs:List Nat}(h:∀x∈xs,x∈D4){c:Nat}:Ep (A9 ext xs) c=true↔∃x∈xs,Dq x=c:=by
 unfold Ep
 rw[← K1 (λx hx=>⟨x,.base (Kt (h x hx))⟩),List.any_eq_true]
 exact exists_congr λx=>and_congr_right λhx=>(Aq (.base (Kt (h x hx)):Ae ext x x)).symm▸⟨Bu,λe=>e▸Nat.beq_refl _⟩
theorem Pv{xs:List Nat}(h:∀x∈xs,x∈D4){S:CS}(hS:∀c,S c=true↔∃x∈xs,Dq x=c):N S=Ep (A9 ext xs):=
 (B13 λc hc=>oT λq=>((hS c).mp q).elim λx z=>absurd (z.2▸Xn (h x z.1)) (Nat.not_le.mpr hc)).trans (funext λc=>Bool.eq_iff_iff.mpr ((hS c).trans (jS h).symm))
theorem vR{X:Nat}{xs:List Nat}(hK:K ext X xs)(hx:∀x∈xs,x∈D4)(hne:xs≠[]):Es X∧X≠21:=by
 cases hK with
 |never=>exact absurd rfl hne
 |one p=>exact E2 (hx X (.head _))
 |many hr _ _ _=>exact⟨⟨Ea hr (by decide) rfl,Ea hr (by decide) rfl,Ea hr (by decide) rfl,Ea hr (by decide) rfl⟩,Ea hr (by decide) rfl⟩
theorem y2{o d:Nat}(h:K ext o [d]):o=d:=by
 cases h with
 |one _=>rfl
 |many _ h2 _ _=>exact(Nat.not_succ_le_self 1 h2).elim
theorem Qz:Es 21:=⟨by decide,by decide,by decide,by decide⟩
theorem lC{x:Nat}(hx:x∈D4)(b:Tb 2 ext):∃t' ext',(cx (k+15)).call "inter" [Ad,(.d (.tuple [iN 21,iN x]),.cl)] (St ext tl)=some ((.d (iN t'),.cl),St ext' tl)∧Gr 2 ext ext'∧R ext' t' (Ep (A9 ext [x])):=
 (Mr k tl (Ks hx) (b.le (by decide))).elim λm z=>z.elim λe1 z=>
  have h:=Kr hx z.2.2
  (B2 (k+5) tl (ts:=[m]) (Ss:=[one (Dq x)]) (x:=.list [iN m]) (kd:=.fr) rfl (Tb.gr (n:=1) (m:=1) b z.2.1) (.cons h.1.r .nil)).imp λu=>Exists.imp λe2 y=>⟨O2 k tl (Ne.symm (E2 hx).2) Qz (E2 hx).1 (Zj k tl (Ne.symm (E2 hx).2) Qz (E2 hx).1 (Aa (k+12) tl (.one (.base (by decide)))) (Aa (k+12) tl (.one (.base (Kt hx)))) z.1 h.2 y.1),z.2.1.trans y.2.1,
   Pv (ext:=ext) (S:=B5 [one (Dq x)]) (λz hz=>Hd hz▸hx) (λc=>⟨λq=>⟨x,.head _,Bu ((Bool.or_false _).symm.trans q)⟩,λq=>q.elim λz q=>(Bool.or_false _).trans (q.2▸Hd q.1▸Nat.beq_refl _)⟩)▸y.2.2⟩
theorem pO{e:List PyData}{x y m m':Nat}{L:List Nat}(hL:∀p,p∈L↔p=m'∨p=m)(hp:Ae e m (Dq x))(hp':Ae e m' (Dq y))(c:Nat):A9 e L c=true↔∃z∈[x,y],Dq z=c:=
 Ba.trans ⟨λh=>h.elim λp h=>((hL p).mp h.1).elim (λq=>⟨y,.tail _ (.head _),(Aq hp').symm.trans (q▸h.2)⟩) λq=>⟨x,.head _,(Aq hp).symm.trans (q▸h.2)⟩,
  λh=>h.elim λz h=>(Mw h.1).elim (λq=>⟨m,(hL m).mpr (.inr rfl),(Aq hp).trans (q▸h.2)⟩) λq=>⟨m',(hL m').mpr (.inl rfl),(Aq hp').trans (Hd q▸h.2)⟩⟩
theorem lB{X x y:Nat}(hK:K ext X [x,y])(hx:∀z∈[x,y],z∈D4)(b:Tb 3 ext):∃t' ext',(cx (k+15)).call "inter" [Ad,(.d (.tuple [iN 21,iN X]),.cl)] (St ext tl)=some ((.d (iN t'),.cl),St ext' tl)∧Gr 3 ext ext'∧R ext' t' (Ep (A9 ext [x,y])):=
 have hX:=vR hK hx (List.cons_ne_nil _ _)
 have mx:=hx x (.head _)
 have my:=hx y (.tail _ (.head _))
 (Mr k tl (Ks mx) (b.le (by decide))).elim λm z1=>z1.elim λe1 z1=>
  have b1:Tb 2 e1:=Tb.gr (n:=1) (m:=2) b z1.2.1
  (Mr k tl (Ks my) (b1.le (by decide))).elim λm' z2=>z2.elim λe2 z2=>
   have h1:=Kr mx z1.2.2
   have h2:=Kr my z2.2.2
   have hL:∀p,p∈Dz (Im m' [m]).reverse↔p=m'∨p=m:=λp=>by rw[Dj,List.mem_reverse,Ke,List.mem_singleton]
   have hp:=h1.1.mono z2.2.1
   (B2 (k+5) tl (x:=.list ((Dz (Im m' [m]).reverse).map iN)) (kd:=.fr) rfl (Tb.gr (n:=1) (m:=1) b1 z2.2.1) (rD λp hm=>((hL p).mp hm).elim (λq=>⟨_,q▸h2.1⟩) λq=>⟨_,q▸hp⟩)).imp λu=>Exists.imp λe3 z3=>⟨O2 k tl (Ne.symm hX.2) Qz hX.1 (pN k tl (E2 mx).2 hX.2 hX.1.2.1 (Aa (k+12) tl hK) z1.1 z2.1 h1.2 h2.2 z3.1),(z1.2.1.trans z2.2.1).trans z3.2.1,
    (congrArg N (Lf (ext:=e2) _)).trans (Pv (ext:=ext) hx (pO hL hp h2.1))▸z3.2.2⟩
theorem aZ{X:Nat}{xs:List Nat}(hK:K ext X xs)(hx:∀x∈xs,x∈D4)(hne:xs≠[])(hl:xs.length≤2)(b:Tb 3 ext):
  ∃t' ext',(cx (k+15)).call "inter" [Ad,(.d (.tuple [iN 21,iN X]),.cl)] (St ext tl)=some ((.d (iN t'),.cl),St ext' tl)∧Gr 3 ext ext'∧R ext' t' (Ep (A9 ext xs)):=by
 obtain _|⟨x,_|⟨y,_|⟨z,zs⟩⟩⟩:=xs
 ·exact absurd rfl hne
 ·obtain rfl:=y2 hK
  exact(lC k tl (hx X (.head _)) (b.le (by decide))).imp λη=>Exists.imp λη z=>⟨z.1,z.2.1.le (by decide),z.2.2⟩
 ·exact lB k tl hK hx b
 ·exact absurd hl (Nat.not_le.mpr (Nat.le_add_left 3 _))
end
theorem Vz(Ss Us:List CS)(c:Nat):B5 (Ss++Us) c=(B5 Ss c||B5 Us c):=List.any_append
theorem E8{os:List Nat}{x:Nat}(h:os.length≤4000):o1 (Gy "append" (.d (.list (os.map iN))) [iV x]) (λv=>some (v,Kd.cl))=some (.d (.list ((os++[x]).map iN)),.cl):=by
 have e:room ((os.map iN).length+1)=true:=by
  rw[List.length_map]
  exact Sc (by omega)
 show o1 (iB (room ((os.map iN).length+1)) (some (V.d (.list (os.map iN++[iN x]))))) _=_
 rw[e,List.map_append]
 rfl
section
variable{w:Wc}{st:Stmt}{sc:Scope}{ext:List PyData}{tl:Sg}{fr:List Nat→A1}{n m:Nat}{f:Nat→CS}{ps:List Nat}{C:Prop}
noncomputable def fB(w:Wc)(st:Stmt)(sc:Scope)(tl:Sg)(fr:List Nat→A1)(n:Nat)(S:CS)(e:List PyData)(y:PyData)(os:List Nat):Prop:=∃e2 os2 Ss fl,(fl=.nx∨fl=.cont)∧Bd w st sc y (fr os) (St e tl) fl (fr (os++os2)) (St e2 tl)∧Gr n e e2∧A6 (R e2) os2 Ss∧os2.length≤1∧B5 Ss=S
theorem fB.no{e e2:List PyData}{y:PyData}{os:List Nat}{fl:Fl}(h:fl=.nx∨fl=.cont)(bd:Bd w st sc y (fr os) (St e tl) fl (fr os) (St e2 tl))(g:Gr n e e2):fB w st sc tl fr n (λη=>false) e y os:=⟨e2,[],[],fl,h,(List.append_nil os).symm▸bd,g,.nil,Nat.zero_le 1,rfl⟩
theorem fB.yes{e e2:List PyData}{y:PyData}{os:List Nat}{u:Nat}{S:CS}(bd:Bd w st sc y (fr os) (St e tl) .nx (fr (os++[u])) (St e2 tl))(g:Gr n e e2)(r:R e2 u S):fB w st sc tl fr n S e y os:=⟨e2,[u],[S],.nx,.inl rfl,bd,g,.cons r .nil,Nat.le_refl 1,funext λη=>Bool.or_false _⟩
theorem fB.cond{e e2:List PyData}{y:PyData}{os:List Nat}{u:Nat}{S:CS}{b:Bool}(bd:Bd w st sc y (fr os) (St e tl) .nx (fr (cond b (os++[u]) os)) (St e2 tl))(g:Gr n e e2)(r:R e2 u S):fB w st sc tl fr n (cond b S λη=>false) e y os:=by
 cases b
 ·exact .no (.inl rfl) bd g
 ·exact .yes bd g r
theorem C34:∀{os e1 n1},(∀p∈ps,∀{e1 n1},Gr n1 ext e1→Tb n e1→∀os:List Nat,os.length≤4000→fB w st sc tl fr n (f (A5 ext p)) e1 (iN p) os)→Gr n1 ext e1→Tb (n*ps.length+m) e1→os.length+ps.length≤4000→
  (∀os2 Ss e',Lp w st sc (ps.map iN) (fr os) (St e1 tl) .nx (fr (os++os2)) (St e' tl)→Gr (n*ps.length) e1 e'→Tb m e'→A6 (R e') os2 Ss→B5 Ss=(λc=>ps.any λp=>f (A5 ext p) c)→C)→C:=by
 induction ps with
 |nil=>exactλ{os e1 _} η η b η z=>z [] [] e1 ((List.append_nil os).symm▸.nil .refl) ((Gr.refl b.wf).le (Nat.zero_le _)) (b.le (Nat.le_add_left _ _)) .nil rfl
 |cons p ps ih=>
  exactλ{os e1 n1} step g b hl z=>(step p (.head _) g (b.le (Ag (Nat.le_add_left _ _) (Nat.le_add_right _ _))) os (Ag (Nat.le_add_right _ _) hl)).elim λe2 h=>h.elim λos2 h=>h.elim λS2 h=>h.elim λfl h=>
   ih (os:=os++os2) (λq hq=>step q (.tail _ hq)) (g.trans h.2.2.1) (Tb.gr (n:=n) (b.le (Nat.le_of_eq ((Nat.add_assoc ..).symm.trans (congrArg (· +m) (Nat.add_comm ..))))) h.2.2.1) (by
    rw[List.length_append,Nat.add_assoc]
    exact Ag (Nat.add_le_add_left (Ag (Nat.add_le_add_right h.2.2.2.2.1 _) (Nat.le_of_eq (Nat.add_comm ..))) _) hl) λos3 S3 e' lp g' b' ha hs=>
    z (os2++os3) (S2++S3) e' (List.append_assoc os os2 os3▸h.1.elim (λq=>.go (q▸h.2.1) lp) λq=>.co (q▸h.2.1) lp) ((h.2.2.1.trans g').le (Nat.le_of_eq (Nat.add_comm ..))) b' ((h.2.2.2.1.imp λη η r=>r.mono g').append ha) (funext λc=>(Vz S2 S3 c).trans (by rw[h.2.2.2.2.2,hs];rfl))
theorem cG{k t:Nat}(hK:K ext t ps)(hl:ps.length≤4000)(b:Tb (n*ps.length+1) ext)(step:∀p∈ps,∀{e1 n1},Gr n1 ext e1→Tb n e1→∀os:List Nat,os.length≤4000→fB w st sc tl fr n (f (A5 ext p)) e1 (iN p) os)
  (z:∀os e1 t' e2,Lp w st sc (ps.map iN) (fr []) (St ext tl) .nx (fr os) (St e1 tl)→(cx (k+8)).call "union" [Ad,(.d (.list (os.map iN)),.al "out")] (St e1 tl)=some ((.d (iN t'),.cl),St e2 tl)→Gr (n*ps.length+1) ext e2→R e2 t' (N (lift f (A9 ext ps)))→C):C:=
 C34 (os:=[]) step (Gr.refl b.wf) b (Ag (Nat.le_of_eq (Nat.zero_add _)) hl) λos Ss e1 lp g b1 ha hs=>(B2 k tl (ts:=os) (kd:=.al "out") rfl b1 ha).elim λt' h=>h.elim λe2 h=>z os e1 t' e2 lp h.1 (g.trans h.2.1) (hs.trans (funext (K1 hK.pts f))▸h.2.2)
theorem C37{c:Expr}{l:A1}:∀{e1 n1},(∀p∈ps,∀{e1 n1},Gr n1 ext e1→Tb n e1→∃t e2,Tn w c l (iN p) (St e1 tl) (some (iN t)) (St e2 tl)∧Gr n e1 e2∧R e2 t (f (A5 ext p)))→Gr n1 ext e1→Tb (n*ps.length+m) e1→
  (∀os Ss e',Fo w c l (ps.map iN) (St e1 tl) (os.map iN) (St e' tl)→Gr (n*ps.length) e1 e'→Tb m e'→A6 (R e') os Ss→B5 Ss=(λc=>ps.any λp=>f (A5 ext p) c)→C)→C:=by
 induction ps with
 |nil=>exactλ{e1 _} η η b z=>z [] [] e1 .nil ((Gr.refl b.wf).le (Nat.zero_le _)) (b.le (Nat.le_add_left _ _)) .nil rfl
 |cons p ps ih=>
  exactλ{e1 n1} step g b z=>(step p (.head _) g (b.le (Ag (Nat.le_add_left _ _) (Nat.le_add_right _ _)))).elim λt h=>h.elim λe2 h=>
   ih (λq hq=>step q (.tail _ hq)) (g.trans h.2.1) (Tb.gr (n:=n) (b.le (Nat.le_of_eq ((Nat.add_assoc ..).symm.trans (congrArg (· +m) (Nat.add_comm ..))))) h.2.1) λos Ss e' fo g' b' ha hs=>
    z (t::os) (f (A5 ext p)::Ss) e' (.cons h.1 fo) ((h.2.1.trans g').le (Nat.le_of_eq (Nat.add_comm ..))) b' (.cons (h.2.2.mono g') ha) (funext λc=>congrArg (f (A5 ext p) c||·) (congrFun hs c))
end
theorem Jr{ext:List PyData}{t c:Nat}(h:Ae ext t c){n:Nat}(hn:n<34):PyData.eqv (iN t) (.int (Int.ofNat n))=Nat.beq n c:=by
 show(Int.ofNat t==Int.ofNat n)=_
 rw[Bool.eq_iff_iff,beq_iff_eq]
 constructor
 ·intro e
  have:=Int.ofNat.inj e
  subst this
  exact(bZ h hn)▸Nat.beq_refl _
 ·intro e
  have e:=Bu e
  subst e
  rw[F9 h hn]
theorem I6{ext:List PyData}{t c:Nat}(h:Ae ext t c){n:Nat}(hn:n<34):PyData.eqv (.int (Int.ofNat n)) (iN t)=Nat.beq n c:=by
 rw[← Jr h hn]
 show(Int.ofNat n==Int.ofNat t)=(Int.ofNat t==Int.ofNat n)
 rw[Bool.eq_iff_iff,beq_iff_eq,beq_iff_eq]
 exact eq_comm
end
section
open PySem
noncomputable def kdL:List Nat:=[1,1,1,1,1,1,1,1,2,2,1,8,6,1,2,2,3,8,3,8,8,10,3,3,4,4,4,4,5,5,5,5,5,5,7,7,7,7]
noncomputable def sP(c:Nat):Nat:=kdL.getD c 0
noncomputable def Gl(H:CS)(f:Nat→Bool):Bool:=(List.range 38).all λd=>!H d||f d
noncomputable def Bx(H:CS)(f:Nat→Bool):Bool:=(List.range 38).any λd=>H d&&f d
theorem Ew{ext:List PyData}{ps:List Nat}(h:∀p∈ps,∃c,Ae ext p c)(f:Nat→Bool):(ps.any λp=>f (A5 ext p))=Bx (A9 ext ps) f:=K1 h (λd η=>f d) 0
theorem Ha{ext:List PyData}{ps:List Nat}(h:∀p∈ps,∃c,Ae ext p c)(f:Nat→Bool):(ps.all λp=>f (A5 ext p))=Gl (A9 ext ps) f:=by
 have:=Ew h λd=>!f d
 have e1:(ps.all λp=>f (A5 ext p))= !(ps.any λp=>!f (A5 ext p)):=by rw[List.not_any_eq_all_not];simp
 rw[e1,this]
 unfold Bx Gl
 rw[List.not_any_eq_all_not]
 congr 1
 funext d
 show(!(A9 ext ps d&&!f d))=_
 cases A9 ext ps d<;>cases f d<;>rfl
theorem Jb{a b:PyData}{σ:Sg}(ha:Dv a=true)(hb:Dv b=true):Cp .NotEq (.d a) (.d b) σ=some (!PyData.eqv a b):=by
 show o1 (iB (Dv a&&Dv b) (some (PyData.eqv a b))) _=_
 rw[ha,hb];rfl
section
variable(k:Nat){ext:List PyData}(tl:Sg)
theorem dK:A0.map (λt=>(cx (k+1)).call "kind_of" [Ad,iV t] (St ext tl))=A0.map (λt=>some ((.d (iN (sP t)),.cl),St ext tl)):=by kernel_rfl
theorem H5{t x:Nat}(hr:B9 ext t=some (C9 x)):(cx (k+1)).call "kind_of" [Ad,iV t] (St ext tl)=some ((.d (iN 7),.cl),St ext tl):=by
 exact xF [.v 117011022 (Bj tl hr)]
theorem Ky{t c:Nat}(h:Ae ext t c):(cx (k+1)).call "kind_of" [Ad,iV t] (St ext tl)=some ((.d (iN (sP c)),.cl),St ext tl):=
 C1 (P:=λt c=>(cx (k+1)).call "kind_of" [Ad,iV t] (St ext tl)=some ((.d (iN (sP c)),.cl),St ext tl)) (λt ht=>Ay (dK k tl) ht) (λi hi=>H5 k tl hi) (λi hi=>H5 k tl hi) (λi hi=>H5 k tl hi) (λi hi=>H5 k tl hi) h
noncomputable def V0(c d:Nat):Bool:=PyData.eqv (iN (B1 d)) (iN (B1 c))&&!PyData.eqv (Lr d) (.tuple [])
noncomputable def qM(c:Nat)(H:CS):CS:=match(Nat.beq 6 c||Nat.beq 7 c)&&Gl H (V0 c)with
 |true=>N H
 |false=>one c
theorem Jo{t c:Nat}{hs:List Nat}(hp:Ae ext t c)(hh:∀h∈hs,∃d,Ae ext h d)(hc:B1 c=0→∃h∈hs,Aj (A5 ext h)=false)(b:Tb 1 ext):
  ∃t' ext',(cx (k+9)).call "sharpen" [Ad,iV t,(.d (.list (hs.map iN)),.al "hits")] (St ext tl)=some ((.d (iN t'),.cl),St ext' tl)∧Gr 1 ext ext'∧R ext' t' (qM c (A9 ext hs)):=by
 have hk:=Ky (k+7) tl hp
 have h18:PyData.eqv (iN (sP c)) (.int 18)=false:=(by decide +kernel:∀c<38,PyData.eqv (iN (sP c)) (.int 18)=false) c (C3 hp)
 have h67:([PyData.int 6,PyData.int 7].any λy=>y.eqv (iN t))=(Nat.beq 6 c||Nat.beq 7 c):=by
  rw[List.any_cons,List.any_cons,List.any_nil,show PyData.int 6=.int (Int.ofNat 6)from rfl,show PyData.int 7=.int (Int.ofNat 7)from rfl,I6 hp (by decide),I6 hp (by decide),Bool.or_false]
 have hU:∃t' ext',(cx (k+8)).call "union" [Ad,(.d (.list (hs.map iN)),.al "hits")] (St ext tl)=some ((.d (iN t'),.cl),St ext' tl)∧Gr 1 ext ext'∧R ext' t' (N (A9 ext hs)):=by
  refine Ac λXz hXz=>?_
  obtain⟨t',ext',e,g,hR⟩:=B2 k tl (ts:=hs) (x:=.list (hs.map iN)) (kd:=.al "hits") rfl b (rD hh)
  refine hXz ?_
  exact⟨t',ext',e,g,Lf hs▸hR⟩
 have hA:(hs.all λp=>V0 c (A5 ext p))=Gl (A9 ext hs) (V0 c):=Ha hh _
 have h0:PyData.eqv (iN (B1 c)) (.int 0)=true→(hs.all λp=>Aj (A5 ext p))=false:=by
  intro h
  have:B1 c=0:=Int.ofNat.inj (eq_of_beq h)
  obtain⟨x,hx,e⟩:=hc this
  cases q:hs.all λp=>Aj (A5 ext p)with
  |false=>rfl
  |true=>exact absurd (Be q x hx) (by rw[e];decide)
 have c1:∀ρ,Bn ρ [("tab",.val,.o 0),("part",.val,.d (iN t)),("hits",.bor,.d (.list (hs.map iN))),("fam",.val,.d (iN (B1 c)))]→J7 (rl (cx (k+8))) (lc "sharpen" 502015088) (Cg "sharpen") ρ (St ext tl)=some ((.d (.list (hs.map λp=>.bool (V0 c (A5 ext p)))),.fr),St ext tl):=by
  refine xC [] (by kernel_rfl) (by kernel_rfl) (Fo.map (i:=iN) λp hpm=>?_)
  have hp':=E7 (hh p hpm).choose_spec
  have e1:=Jb (σ:=St ext tl) (Lq (A5 ext p)) (show Dv (.tuple [])=true from rfl)
  unfold V0
  cases q:PyData.eqv (iN (B1 (A5 ext p))) (iN (B1 c))
  case true=>exact xT [.c (A2 _ tl hp'),.t 502016039 q,.c (Db _ tl hp'),.b 502044071 e1]
  case false=>exact xT [.c (A2 _ tl hp'),.t 502016039 q]
 have c2:∀ρ,Bn ρ [("tab",.val,.o 0),("part",.val,.d (iN t)),("hits",.bor,.d (.list (hs.map iN))),("fam",.val,.d (iN (B1 c)))]→J7 (rl (cx (k+8))) (lc "sharpen" 504032077) (Cg "sharpen") ρ (St ext tl)=some ((.d (.list (hs.map λp=>.bool (Aj (A5 ext p)))),.fr),St ext tl):=
  xC [] (by kernel_rfl) (by kernel_rfl) (Fo.map (i:=iN) λp hpm=>xT [.c (A2 _ tl (E7 (hh p hpm).choose_spec))])
 have a1:=Ij (ps:=hs) (g:=λp=>V0 c (A5 ext p)) (kd:=.fr) (St ext tl)
 have a2:=Ij (ps:=hs) (g:=λp=>Aj (A5 ext p)) (kd:=.fr) (St ext tl)
 rw[hA]at a1
 unfold qM
 have ret:(cx (k+9)).call "sharpen" [Ad,iV t,(.d (.list (hs.map iN)),.al "hits")] (St ext tl)=some ((.d (iN t),.cl),St ext tl)→∃t' ext',(cx (k+9)).call "sharpen" [Ad,iV t,(.d (.list (hs.map iN)),.al "hits")] (St ext tl)=some ((.d (iN t'),.cl),St ext' tl)∧Gr 1 ext ext'∧R ext' t' (one c):=λe=>⟨t,ext,e,(Gr.refl b.wf).le (by decide),hp.r⟩
 cases q1:(Nat.beq 6 c||Nat.beq 7 c)<;>rw[q1]at h67
 ·refine ret ?_
  cases q3:PyData.eqv (iN (B1 c)) (.int 0)
  ·exact xF [.c (A2 _ tl hp),.t 501007031 h67,.c (hk),.t 501035062 h18,.t 504007023 q3]
  ·rw[h0 q3]at a2
   exact xF [.c (A2 _ tl hp),.t 501007031 h67,.c (hk),.t 501035062 h18,.t 504007023 q3,.e 504032077 c2,.v 504028078 a2]
 ·cases q2:Gl (A9 ext hs) (V0 c)<;>rw[q2]at a1
  ·refine ret ?_
   cases q3:PyData.eqv (iN (B1 c)) (.int 0)
   ·exact xF [.c (A2 _ tl hp),.t 501007031 h67,.e 502015088 c1,.v 502011089 a1,.t 504007023 q3]
   ·rw[h0 q3]at a2
    exact xF [.c (A2 _ tl hp),.t 501007031 h67,.e 502015088 c1,.v 502011089 a1,.t 504007023 q3,.e 504032077 c2,.v 504028078 a2]
  ·refine Ac λXz hXz=>?_
   obtain⟨t',ext',e,g,hR⟩:=hU
   refine hXz ?_
   refine⟨t',ext',?_,g,hR⟩
   exact xF [.c (A2 _ tl hp),.t 501007031 h67,.e 502015088 c1,.v 502011089 a1,.c (e)]
end
end
section
open PySem
noncomputable def Ly(U:CS)(c:Nat):CS:=λd=>U d&&Ng c d
noncomputable def G3(H:CS):Bool:=Bx H λη=>true
noncomputable def cI(U:CS)(c:Nat):CS:=match G3 (Ly U c)with
 |true=>qM c (Ly U c)
 |false=>λη=>false
theorem Jn{ext:List PyData}{ps:List Nat}(h:∀p∈ps,∃c,Ae ext p c):G3 (A9 ext ps)= !ps.isEmpty:=by
 unfold G3
 rw[← Ew h]
 cases ps<;>simp
theorem lM{ext:List PyData}{us:List Nat}(h:∀p∈us,∃c,Ae ext p c)(c:Nat):A9 ext (us.filter λu=>Ng c (A5 ext u))=Ly (A9 ext us) c:=by
 funext d
 unfold Ly
 rw[Bool.eq_iff_iff,Bool.and_eq_true,Ba,Ba]
 constructor
 ·rintro⟨p,hp,rfl⟩
  obtain⟨h1,h2⟩:=M0 hp
  exact⟨⟨p,h1,rfl⟩,h2⟩
 ·rintro⟨⟨p,hp,rfl⟩,e⟩
  exact⟨p,oR ⟨hp,e⟩,rfl⟩
theorem Ts{c:Nat}(h:B1 c=0)(d:Nat):Ng c d=true:=by
 unfold Ng
 rw[h]
 rfl
theorem o8(S:CS)(c:Nat):B5 [S] c=S c:=Bool.or_false _
noncomputable abbrev bT:RV:=(.d (.bool true),.cl)
noncomputable def dW(t o:Nat)(os:List Nat):A1:=[("tab",.val,.o 0),("t",.val,.d (iN t)),("other",.val,.d (iN o)),("strict",.val,.d (.bool true)),("out",.own,.d (.list (os.map iN)))]
theorem On{α:Type}{f g:α→Bool}{l:List α}(h:∀x∈l,f x=g x):l.all f=l.all g:=by
 induction l with
 |nil=>rfl
 |cons a l ih=>rw[List.all_cons,List.all_cons,h a (.head _),ih λx hx=>h x (.tail _ hx)]
theorem Ko{n:Nat}{a b:List PyData}(g:Gr n a b){o:Nat}{us:List Nat}(hO:K a o us)(hn:(!us.isEmpty&&us.all λp=>Aj (A5 a p))=false):(!us.isEmpty&&us.all λp=>Aj (A5 b p))=false:=(congrArg (_&&·) (On λu hu=>by rw[Mx g (hO.parts u hu)])).trans hn
theorem bN{us hs:List Nat}{e:List PyData}{f:Nat→Bool}{c h:Nat}(h0:B1 c=0→∀u,f u=true)(hn:(!us.isEmpty&&us.all λp=>Aj (A5 e p))=false)(q:us.filter f=h::hs)(hc:B1 c=0):∃x∈h::hs,Aj (A5 e x)=false:=by
 rw[List.filter_eq_self.mpr λu η=>h0 hc u]at q
 subst q
 exact(List.all_eq_false.mp hn).imp λx h=>⟨h.1,oT h.2⟩
section
variable(k:Nat){ext e:List PyData}(tl:Sg){t o p c:Nat}{ps us os:List Nat}
theorem zI(hp:Ae e p c)(ho:K e o us):Ce (cx (k+9)) "plain_equal_yes" 541015091 (dW t o os++([("part",.val,.d (iN p))]:A1)) (St e tl) ((us.filter λu=>Ng c (A5 e u)).map iN) (St e tl):=
 xK "plain_equal_yes" 541015091 [.c (Aa _ tl ho)] (by kernel_rfl) (by kernel_rfl) (Fo.flt us (p:=λu=>Ng c (A5 e u)) (i:=iN) (f:=iN) λu hu=>Ze (.b 0 .l .l) (en:=bs [Ng c (A5 e u)]) (σ':=λη=>St e tl) (y:=λe=>cond (e 0) (some (iN u)) none) [.cw (Qx (k+3) tl hp (ho.parts u hu)),.g 541055090 0 rfl] λe=>by kernel_rfl)
theorem iR(hp:Ae e p c)(ho:K e o us)(hn:(!us.isEmpty&&us.all λp=>Aj (A5 e p))=false)(b:Tb 1 e)(hos:os.length≤4000):fB (cx (k+9)) (Eb "plain_equal_yes" 540) (Cg "plain_equal_yes") tl (dW t o) 1 (cI (A9 e us) c) e (iN p) os:=by
 have cm:=zI k tl (t:=t) (os:=os) hp ho
 have hH:=lM ho.pts c
 have hm:∀u∈us.filter λu=>Ng c (A5 e u),∃d,Ae e u d:=λu hu=>ho.pts u (M0 hu).1
 have hc:=λ{h hs}=>bN (f:=λu=>Ng c (A5 e u)) (c:=c) (h:=h) (hs:=hs) (λh0 u=>Ts h0 _) hn
 generalize(us.filter λu=>Ng c (A5 e u))=hs at cm hH hm hc
 have q:=Jn hm
 rw[hH]at q
 unfold cI
 cases hs with
 |nil=>rw[show G3 (Ly (A9 e us) c)=false from q];exact .no (.inl rfl) (.sub (Je (l':=dW t o os++([("part",.val,.d (iN p)),("hits",.own,.d (.list []))]:A1)) [.k cm] (by kernel_rfl)) .refl (.app rfl)) ((Gr.refl b.wf).le (Nat.zero_le 1))
 |cons h hs=>rw[show G3 (Ly (A9 e us) c)=true from q];exact(Jo k tl hp hm (hc rfl) b).elim λt' z=>z.elim λe2 z=>.yes (.sub (Je (l':=dW t o (os++[t'])++([("part",.val,.d (iN p)),("hits",.own,.d (.list ((h::hs).map iN)))]:A1)) [.k cm,.c z.1,.v 543012048 (E8 (x:=t') hos)] (by kernel_rfl)) .refl (.app rfl)) z.2.1 (hH▸z.2.2)
theorem iS(hK:K ext t ps)(hO:K ext o us)(h1:t≠1)(hn:(!us.isEmpty&&us.all λp=>Aj (A5 ext p))=false)(hlen:ps.length≤4000)(b:Tb (ps.length+1) ext):
  ∃t' ext',(cx (k+10)).call "plain_equal_yes" [Ad,iV t,iV o,(.d (.bool true),.cl)] (St ext tl)=some ((.d (iN t'),.cl),St ext' tl)∧Gr (ps.length+1) ext ext'∧R ext' t' (N (lift (cI (A9 ext us)) (A9 ext ps))):=
 cG (k:=k+1) (n:=1) (fr:=dW t o) (f:=cI (A9 ext us)) hK hlen (by rw[Nat.one_mul];exact b) (λp hpm e1 n1 g b1 os hos=>Cy g hO.pts▸iR k tl ((hK.parts p hpm).mono g) (hO.mono g) (Ko g hO hn) b1 hos) λos e1 t' e2 lp e g hR=>
  have nk:=(E9 (k+4) tl hO).trans (congrArg (λb=>some (((V.d (.bool b)),Kd.cl),St ext tl)) hn)
  ⟨t',e2,xF [.t 535007019 (Cn (b:=1) h1),.c nk,.s 540 (P3 (l:=dW t o []) (σ:=St ext tl) (x:=.tuple (ps.map iN)) [.c (Aa _ tl hK)] (by kernel_rfl) (by kernel_rfl) (by kernel_rfl) rfl lp),.c e],g.le (Nat.le_of_eq (congrArg Nat.succ (Nat.one_mul _))),hR⟩
end
end
section
open PySem
section
variable(k:Nat){ext:List PyData}(tl:Sg)
theorem iK:(cx (k+5)).call "plain_value" [Ad,iV 2] (St ext tl)=some ((.d (T []),.cl),St ext tl):=by kernel_rfl
theorem qR{o:Nat}{us:List Nat}(hr:B9 ext o=some (Bz us)):(cx (k+5)).call "plain_value" [Ad,iV o] (St ext tl)=some ((.d (T []),.cl),St ext tl):=by
 have e4:PyData.eqv (iN o) (.int 4)=false:=Cn (b:=4) (Ea hr (by decide) rfl)
 have e5:PyData.eqv (iN o) (.int 5)=false:=Cn (b:=5) (Ea hr (by decide) rfl)
 exact xF [.v 474010021 (Bj tl hr),.t 475007017 e4,.t 477007017 e5]
noncomputable def pvU:List Nat→PyData
 |[c]=>Lr c
 |_=>T []
theorem qS{o:Nat}{us:List Nat}(h:K ext o us):(cx (k+5)).call "plain_value" [Ad,iV o] (St ext tl)=some ((.d (pvU (us.map (A5 ext))),.cl),St ext tl):=by
 cases h with
 |never=>exact iK k tl
 |one hp=>rw[List.map_cons,List.map_nil,Aq hp];exact Db k tl hp
 |many hr h2 h3 h4=>
  have:pvU (us.map (A5 ext))=T []:=by
   obtain _|⟨a,_|⟨b,r⟩⟩:=us
   ·rfl
   ·exact absurd h2 (Nat.lt_irrefl 1)
   ·rfl
  rw[this]
  exact qR k tl hr
theorem zJ{t o:Nat}{us:List Nat}(h:K ext o us)(hv:pvU (us.map (A5 ext))=T []):(cx (k+10)).call "plain_equal_no" [Ad,iV t,iV o] (St ext tl)=some ((.d (iN t),.cl),St ext tl):=by
 have e:=qS (k+4) tl h
 rw[hv]at e
 exact xF [.c (e)]
noncomputable def Ai(d:Nat):Bool:=hasPv (Lr d)
where hasPv:PyData→Bool
 |.tuple [_,_]=>true
 |_=>false
noncomputable def zB(d:Nat):PyData:=match Lr d with
 |.tuple [_,x]=>x
 |_=>.none
set_option tactic.hygienic true in
set_option backward.match.sparseCases true in
theorem Ti{d:Nat}(hd:d<38)(h:Ai d=true):Lr d=.tuple [iN (B1 d),zB d]∧PyData.eqv (Lr d) (.tuple [])=false:=
 have m:=oR ⟨En hd,h⟩
 ⟨Ay (by kernel_rfl:((List.range 38).filter Ai).map Lr=((List.range 38).filter Ai).map λd=>.tuple [iN (B1 d),zB d]) m,Ay (by kernel_rfl:((List.range 38).filter Ai).map (λd=>PyData.eqv (Lr d) (.tuple []))=((List.range 38).filter Ai).map λη=>false) m⟩
noncomputable def F7(d c:Nat):Bool:=!PyData.eqv (Lr c) (Lr d)&&(!(([PyData.int 4,.int 5].any λy=>PyData.eqv y (iN (B1 d)))&&PyData.eqv (iN (B1 c)) (iN (B1 d)))&&!(Nat.beq 3 c&&Nat.beq 4 d))
noncomputable def Kf(d c:Nat):CS:=match F7 d c with
 |true=>one c
 |false=>λη=>false
noncomputable def uE(t o:Nat)(x:PyData)(os:List Nat):A1:=[("tab",.val,.o 0),("t",.val,.d (iN t)),("other",.val,.d (iN o)),("value",.val,.d x),("out",.own,.d (.list (os.map iN)))]
theorem iZ{t o p c d:Nat}{tl:Sg}{os:List Nat}(hp:Ae ext p c)(ho:Ae ext o d)(hu:Ai d=true)(w:Wf ext)(hos:os.length≤4000):fB (cx (k+9)) (Eb "plain_equal_no" 552) (Cg "plain_equal_no") tl (uE t o (.tuple [iN (B1 d),zB d])) 0 (Kf d c) ext (iN p) os:=by
 have hv:=(Ti (C3 ho) hu).1
 have hok:=Lq d
 unfold Kf F7
 rw[hv]at hok⊢
 exact .cond (w:=cx (k+9)) (st:=Eb "plain_equal_no" 552) (y:=iN p) (.sub (Qi (w:=cx (k+9)) (.b 0 (.b 2 .l (.b 3 .l (.b 4 .l .l))) (.b 1 (.b 2 .l (.b 3 .l (.b 4 .l .l))) (.b 2 .l .l))) (en:=bs [[PyData.int 4,.int 5].any λy=>PyData.eqv y (iN (B1 d)),PyData.eqv (iN (B1 c)) (iN (B1 d)),!PyData.eqv (Lr c) (.tuple [iN (B1 d),zB d]),Nat.beq 3 c,Nat.beq 4 d]) (f:=λη=>.nx) (l':=λe=>uE t o (.tuple [iN (B1 d),zB d]) (cond (e 2&&(!(e 0&&e 1)&&!(e 3&&e 4))) (os++[p]) os)++([("part",.val,.d (iN p)),("same",.val,.d (.bool (e 0&&e 1)))]:A1)) (σ':=λη=>St ext tl)
  [.g 553015048 0 rfl,.cw (A2 _ tl hp),.g 553053082 1 rfl,.cw (Db _ tl hp),.d 554011042 2 (Jb (σ:=St ext tl) (Lq c) hok),.g 554068080 3 (Jr (n:=3) hp (by decide)),.g 554085099 4 (Jr (n:=4) ho (by decide)),.v 555012028 (E8 (x:=p) hos)] λe=>by kernel_rfl) .refl (.app rfl)) (Gr.refl w) hp.r
theorem iY{t o d:Nat}{ps:List Nat}(hK:K ext t ps)(hO:Ae ext o d)(hu:Ai d=true)(h1:t=1→Aj d=false)(hlen:ps.length≤4000)(b:Tb 1 ext):
  ∃t' ext',(cx (k+10)).call "plain_equal_no" [Ad,iV t,iV o] (St ext tl)=some ((.d (iN t'),.cl),St ext' tl)∧Gr 1 ext ext'∧R ext' t' (N (lift (Kf d) (A9 ext ps))):=by
 have hv:=Ti (C3 hO) hu
 have e:=Db (k+4) tl hO
 have e0:=Lc (σ:=St ext tl) (Lq d) (show Dv (.tuple [])=true from rfl)
 rw[hv.2]at e0
 rw[hv.1]at e e0
 refine cG (k:=k+1) (n:=0) (f:=Kf d) (w:=cx (k+9)) (st:=Eb "plain_equal_no" 552) (sc:=Cg "plain_equal_no") (tl:=tl) (fr:=uE t o (.tuple [iN (B1 d),zB d])) hK hlen (by rw[Nat.zero_mul];exact b) (λp hpm{e1 n1} g b1 os hos=>iZ k ((hK.parts p hpm).mono g) (hO.mono g) hu b1.wf hos) λos e1 t' e2 lp eu g hR=>⟨t',e2,?_,g.le (by rw[Nat.zero_mul];exact Nat.le_refl 1),hR⟩
 have lp:=P3 (l:=uE t o (.tuple [iN (B1 d),zB d]) []) (σ:=St ext tl) (x:=.tuple (ps.map iN)) [.c (Aa _ tl hK)] (by kernel_rfl) (by kernel_rfl) (by kernel_rfl) rfl lp
 cases q:PyData.eqv (iN t) (.int 1)
 ·exact xF [.c e,.b 547007018 e0,.t 549007019 q,.s 552 lp,.c eu]
 ·exact xF [.c e,.b 547007018 e0,.t 549007019 q,.t 549024043 (h1 (Int.ofNat.inj (eq_of_beq q))),.s 552 lp,.c eu]
end
end
section
open PySem
noncomputable abbrev Ax:RV:=(.o 15,.cl)
noncomputable def Hn(d:Nat):Nat:=match d with
 |4=>5
 |_=>4
section
variable(k:Nat){ext:List PyData}(tl:Sg)
theorem c6:(cx (k+8)).call "bound_parts" [Ax,iV 21] (St ext tl)=some ((.d (.tuple []),.cl),St ext tl):=by kernel_rfl
theorem C56(b:Tb 1 ext):∃t' ext',(cx (k+9)).call "rest_of_bound" [Ax,iV 21,iV 4] (St ext tl)=some ((.d (iN t'),.cl),St ext' tl)∧Gr 1 ext ext'∧K ext' t' [5,11]:=
 (Fz k tl (ts:=[11,5]) (pf:=λt=>[t]) (x:=.tuple [.int 11,iN 5]) (kd:=.cl) rfl b λt ht=>.one (.base ((by decide:∀t∈[11,5],t∈A0) t ht))).imp λt'=>Exists.imp λe z=>⟨xF [.c (c6 k tl (ext:=ext)),.c z.1],z.2⟩
theorem C55(b:Tb 1 ext):∃t' ext',(cx (k+9)).call "rest_of_bound" [Ax,iV 21,iV 5] (St ext tl)=some ((.d (iN t'),.cl),St ext' tl)∧Gr 1 ext ext'∧K ext' t' [4,11]:=
 (Fz k tl (ts:=[11,4]) (pf:=λt=>[t]) (x:=.tuple [.int 11,iN 4]) (kd:=.cl) rfl b λt ht=>.one (.base ((by decide:∀t∈[11,4],t∈A0) t ht))).imp λt'=>Exists.imp λe z=>⟨xF [.c (c6 k tl (ext:=ext)),.c z.1],z.2⟩
theorem iG{d:Nat}(hd:d=4∨d=5)(b:Tb 1 ext):∃t' ext',(cx (k+9)).call "rest_of_bound" [Ax,iV 21,iV d] (St ext tl)=some ((.d (iN t'),.cl),St ext' tl)∧Gr 1 ext ext'∧K ext' t' [Hn d,11]:=by
 rcases hd with rfl|rfl
 ·exact C56 k tl b
 ·exact C55 k tl b
end
noncomputable abbrev bF:RV:=(.d (.bool false),.cl)
noncomputable def Hf(l:List PyData)(t:Nat):Bool:=l.any λy=>PyData.eqv y (iN t)
section
variable(k:Nat){ext:List PyData}(tl:Sg)
theorem iX(b:Tb 1 ext):∃t' ext',(cx (k+10)).call "plain_equal_no" [Ad,iV 1,iV 4] (St ext tl)=some ((.d (iN t'),.cl),St ext' tl)∧Gr 1 ext ext'∧K ext' t' [5,11]:=
 (Fz (k+1) tl (ts:=[11,5]) (pf:=λt=>[t]) (x:=.tuple [.int 11,iN 5]) (kd:=.cl) rfl b λt ht=>.one (.base ((by decide:∀t∈[11,5],t∈A0) t ht))).imp λt'=>Exists.imp λe z=>⟨xF [.c (Db _ tl (.base (by decide):Ae ext 4 4)),.c z.1],z.2⟩
theorem iW(b:Tb 1 ext):∃t' ext',(cx (k+10)).call "plain_equal_no" [Ad,iV 1,iV 5] (St ext tl)=some ((.d (iN t'),.cl),St ext' tl)∧Gr 1 ext ext'∧K ext' t' [4,11]:=
 (Fz (k+1) tl (ts:=[11,4]) (pf:=λt=>[t]) (x:=.tuple [.int 11,iN 4]) (kd:=.cl) rfl b λt ht=>.one (.base ((by decide:∀t∈[11,4],t∈A0) t ht))).imp λt'=>Exists.imp λe z=>⟨xF [.c (Db _ tl (.base (by decide):Ae ext 5 5)),.c z.1],z.2⟩
theorem R3{t o:Nat}{y:Bool}(ht:Hf [.int 0,.int 13] t=true):(cx (k+11)).call "narrow_plain_equal" [Ad,iV t,iV o,(.d (.bool y),.cl),bT] (St ext tl)=some ((.d (iN t),.cl),St ext tl):=by
 cases y<;>exact xF [.t 558007022 ht]
theorem Zz{t o:Nat}{y:Bool}(ht:Hf [.int 0,.int 13] t=false)(ho:Hf [.int 0,.int 13,.int 1] o=true):(cx (k+11)).call "narrow_plain_equal" [Ad,iV t,iV o,(.d (.bool y),.cl),bT] (St ext tl)=some ((.d (iN t),.cl),St ext tl):=by
 unfold Hf at ht ho
 cases y<;>exact xF [.t 558007022 ht,.t 558026054 ho]
theorem j7{t o t':Nat}{ext':List PyData}(ht:Hf [.int 0,.int 13] t=false)(ho:Hf [.int 0,.int 13,.int 1] o=false)(h:(cx (k+10)).call "plain_equal_no" [Ad,iV t,iV o] (St ext tl)=some ((.d (iN t'),.cl),St ext' tl)):
  (cx (k+11)).call "narrow_plain_equal" [Ad,iV t,iV o,bF,bT] (St ext tl)=some ((.d (iN t'),.cl),St ext' tl):=by
 unfold Hf at ht ho
 exact xF [.t 558007022 ht,.t 558026054 ho,.c (h)]
theorem zO{t o t':Nat}{ext':List PyData}(ht:Hf [.int 0,.int 13] t=false)(ho:Hf [.int 0,.int 13,.int 1] o=false)(h:(cx (k+10)).call "plain_equal_yes" [Ad,iV t,iV o,bT] (St ext tl)=some ((.d (iN t'),.cl),St ext' tl)):
  (cx (k+11)).call "narrow_plain_equal" [Ad,iV t,iV o,bT,bT] (St ext tl)=some ((.d (iN t'),.cl),St ext' tl):=by
 unfold Hf at ht ho
 exact xF [.t 558007022 ht,.t 558026054 ho,.c (h)]
theorem Dg(t:Nat):(cx (k+1)).call "Thin.force" [Ax,iV t] (St ext tl)=some ((.d (iN t),.cl),St ext tl):=by
 exact xF []
theorem aD{t o t':Nat}{z:Bool}{ps us:List Nat}{ext':List PyData}(hK:K ext t ps)(hO:K ext o us)(ho:Hf [.int 4,.int 5] o=z)(h:(cx (k+17)).call (cond z "unlike_nullish" "narrow_plain_equal") (cond z [Ax,iV t,iV o] [Ad,iV t,iV o,bF,bT]) (St ext tl)=some ((.d (iN t'),.cl),St ext' tl)):
  (cx (k+18)).call "narrow_equal" [Ax,iV t,iV o,bF,bT] (St ext tl)=some ((.d (iN t'),.cl),St ext' tl):=by
 have a1:=D3 (k+11) tl hK
 have a2:=D3 (k+11) tl hO
 generalize(ps.all λp=>C8 (A5 ext p))=a at a1
 generalize(us.all λp=>C8 (A5 ext p))=b at a2
 have f1:=Dg (k+16) tl (ext:=ext) t
 have f2:=Dg (k+16) tl (ext:=ext) o
 cases z<;>cases a
 ·exact xF [.c f1,.c f2,.c a1,.t 626031054 ho,.c h]
 ·exact xFt (.b 0 .l .l) (en:=bs [b]) (r:=λη=>(.d (iN t'),.cl)) (σ':=λη=>St ext' tl) [.cw f1,.cw f2,.cw a1,.cw a2,.t 626031054 ho,.g 628007012 0 rfl,.cw h] λe=>by kernel_rfl
 ·exact xF [.c f1,.c f2,.c a1,.t 626031054 ho,.c h]
 ·exact xF [.c f1,.c f2,.c a1,.c a2,.t 626031054 ho,.c h]
theorem jI{t o t':Nat}{ps us:List Nat}{ext':List PyData}(hK:K ext t ps)(hO:K ext o us)(ho:Hf [.int 4,.int 5] o=false)(h:(cx (k+17)).call "narrow_plain_equal" [Ad,iV t,iV o,bF,bT] (St ext tl)=some ((.d (iN t'),.cl),St ext' tl)):
  (cx (k+18)).call "narrow_equal" [Ax,iV t,iV o,bF,bT] (St ext tl)=some ((.d (iN t'),.cl),St ext' tl):=aD k tl hK hO ho h
theorem zS{t o t':Nat}{ps us:List Nat}{ext':List PyData}(hK:K ext t ps)(hO:K ext o us)(ho:Hf [.int 4,.int 5] o=true)(h:(cx (k+17)).call "unlike_nullish" [Ax,iV t,iV o] (St ext tl)=some ((.d (iN t'),.cl),St ext' tl)):
  (cx (k+18)).call "narrow_equal" [Ax,iV t,iV o,bF,bT] (St ext tl)=some ((.d (iN t'),.cl),St ext' tl):=aD k tl hK hO ho h
end
noncomputable def Jp(d:Nat):CS:=λc=>Nat.beq (Hn d) c||(Nat.beq 11 c||false)
noncomputable def Ki(d c:Nat):CS:=match Nat.beq 21 c with
 |true=>Ep (Jp d)
 |false=>one c
noncomputable def mH(d kt t:Nat)(os:List Nat):A1:=[("host",.val,.o 15),("t",.val,.d (iN t)),("other",.val,.d (iN d)),("tab",.val,.o 0),("kept",.val,.d (iN kt)),("out",.own,.d (.list (os.map iN)))]
section
variable(k:Nat){ext:List PyData}(tl:Sg)
theorem g8{t d kt p c:Nat}{os:List Nat}(hd:d=4∨d=5)(hp:Ae ext p c)(b:Tb 4 ext)(hos:os.length≤4000):fB (cx (k+16)) (Eb "unlike_nullish" 603) (Cg "unlike_nullish") tl (mH d kt t) 4 (Ki d c) ext (iN p) os:=by
 unfold Ki
 cases q:Nat.beq 21 c with
 |true=>
  obtain rfl:=Bu q
  obtain rfl:p=21:=F9 hp (by decide)
  exact(iG (k+7) tl hd (b.le (by decide))).elim λX h=>h.elim λe1 h=>
   (aZ (k+1) tl h.2.2 (hd.elim (λe=>e▸(by decide)) λe=>e▸(by decide)) (List.cons_ne_nil _ _) (Nat.le_refl _) (Tb.gr (n:=1) (m:=3) b h.2.1)).elim λu z=>z.elim λe2 z=>
    .yes (.sub (Je (l':=mH d kt t (os++[u])++([("part",.val,.d (iN u))]:A1)) [.c (Ky _ tl hp),.c (aL _ tl hp),.c h.1,.c z.1,.v 606008024 (E8 (x:=u) hos)] (by kernel_rfl)) .refl (.app rfl)) ((h.2.1.trans z.2.1).le (by decide)) ((hd.elim (λe=>e▸rfl) λe=>e▸rfl:A9 e1 [Hn d,11]=Jp d)▸z.2.2)
 |false=>exact .yes (.sub (Je (l':=mH d kt t (os++[p])++([("part",.val,.d (iN p))]:A1)) [.c (Ky _ tl hp),.t 604011042 ((by decide +kernel:∀c<38,Nat.beq 21 c=false→([PyData.int 10,.int 15,.int 16].any λy=>PyData.eqv y (iN (sP c)))=false) _ (C3 hp) q),.v 606008024 (E8 (x:=p) hos)] (by kernel_rfl)) .refl (.app rfl)) ((Gr.refl b.wf).le (Nat.zero_le 4)) hp.r
theorem g9{t d kt:Nat}{ext1:List PyData}{ps:List Nat}(hd:d=4∨d=5)(hk:(cx (k+16)).call "narrow_plain_equal" [Ad,iV t,iV d,bF,bT] (St ext tl)=some ((.d (iN kt),.cl),St ext1 tl))(hK:K ext1 kt ps)(hlen:ps.length≤4000)(b:Tb (4*ps.length+1) ext1):
  ∃t' ext',(cx (k+17)).call "unlike_nullish" [Ax,iV t,iV d] (St ext tl)=some ((.d (iN t'),.cl),St ext' tl)∧Gr (4*ps.length+1) ext1 ext'∧R ext' t' (N (lift (Ki d) (A9 ext1 ps))):=
 cG (k:=k+8) (f:=Ki d) (w:=cx (k+16)) (st:=Eb "unlike_nullish" 603) (sc:=Cg "unlike_nullish") (tl:=tl) (fr:=mH d kt t) hK hlen b (λp hpm{e1 n1} g b1 os hos=>g8 k tl hd ((hK.parts p hpm).mono g) b1 hos) λos e1 t' e2 lp e g hR=>
  ⟨t',e2,xF [.c hk,.s 603 (P3 (l:=mH d kt t []) (σ:=St ext1 tl) (x:=.tuple (ps.map iN)) [.c (Aa _ tl hK)] (by kernel_rfl) (by kernel_rfl) (by kernel_rfl) rfl lp),.c e],g,hR⟩
end
noncomputable def Fq(d:Nat):CS:=λc=>Nat.beq (Hn d) c||(Nat.beq 11 c||false)
noncomputable def Kw(d:Nat)(S:CS):CS:=match S 0 with
 |true=>S
 |false=>match S 1&&Aj d with
  |true=>Fq d
  |false=>N (lift (Kf d) S)
noncomputable def jA(d:Nat)(S:CS):CS:=match Aj d with
 |true=>N (lift (Ki d) (Kw d S))
 |false=>Kw d S
theorem R.len{ext:List PyData}(w:Wf ext){t:Nat}{ps:List Nat}(h:K ext t ps):ps.length≤38:=K4 w (h.sorted.imp λh=>Nat.ne_of_lt h) h.pts
noncomputable def Nm(S:CS):Prop:=N S=S
theorem Nm.top0{S:CS}(h:Nm S)(e:S 0=true):S=one 0:=by
 have h':N S=S:=h
 rw[← h']
 funext c
 unfold N
 rw[e]
 rfl
theorem Nm.top1{S:CS}(h:Nm S)(e0:S 0=false)(e:S 1=true):S=one 1:=by
 have h':N S=S:=h
 rw[← h']
 funext c
 unfold N
 rw[e0,e]
 rfl
theorem yE{c:Nat}{l:List Nat}(h2:2≤l.length)(hs:l.Pairwise (· <·))(key:∀p∈l,p=c):False:=by
 obtain _|⟨a,_|⟨b,r⟩⟩:=l
 ·exact absurd h2 (by decide)
 ·exact absurd h2 (Nat.lt_irrefl 1)
 ·exact Nat.ne_of_lt ((List.pairwise_cons.mp hs).1 b (.head _)) ((key a (.head _)).trans (key b (.tail _ (.head _))).symm)
theorem xY{ext:List PyData}{t c:Nat}(h:R ext t (one c))(hc:c<34):t=c:=by
 obtain⟨ps,hK,e⟩:=h
 have key:∀p∈ps,p=c:=λp hp=>F9 (Bu ((e (A5 ext p)).trans (Qe ⟨p,hp,Nat.beq_refl _⟩))▸hK.parts p hp) hc
 have hs:=hK.sorted
 cases hK with
 |never=>exact Bool.noConfusion ((Nat.beq_refl c).symm.trans (e c))
 |one _=>exact key t (.head _)
 |many _ h2 _ _=>exact(yE h2 hs key).elim
theorem B14{ext:List PyData}{t:Nat}{ps:List Nat}(h:K ext t ps):t≠13:=by
 cases h with
 |never=>decide
 |one hp=>exact C1 (P:=λt η=>t≠13) (by decide) (λη η e=>nomatch e) (λη η e=>nomatch e) (λη η e=>nomatch e) (λη η e=>nomatch e) hp
 |many hr _ _ _=>exact Ea hr (by decide) rfl
theorem oI{ext:List PyData}{t:Nat}{ps:List Nat}(h:K ext t ps)(hb:t∈A0):ps=[t]:=h.det (.one (.base hb))
theorem oF{ext:List PyData}{t:Nat}{S:CS}(h:R ext t S)(hb:t∈A0):S t=true:=h.elim λps h=>(h.2 t).trans (by
 rw[oI h.1 hb]
 exact Qe ⟨t,.head _,(congrArg (Nat.beq · t) (Aq (.base hb:Ae ext t t))).trans (Nat.beq_refl t)⟩)
theorem Ri{ext:List PyData}{t:Nat}{S:CS}(h:R ext t S)(hn:Nm S):Hf [.int 0,.int 13] t=S 0:=by
 have h13:PyData.eqv (.int (Int.ofNat 13)) (iN t)=false:=nS λe=>h.elim λη h=>B14 h.1 (Int.ofNat.inj e).symm
 show(PyData.eqv (.int (Int.ofNat 0)) (iN t)||(PyData.eqv (.int (Int.ofNat 13)) (iN t)||false))=_
 rw[h13,Bool.or_false,Bool.or_false]
 cases e:S 0 with
 |true=>
  obtain rfl:t=0:=xY (hn.top0 e▸h) (by decide)
  rfl
 |false=>
  refine nS λq=>?_
  cases Int.ofNat.inj q
  exact Bool.noConfusion (e.symm.trans (oF h (by decide)))
theorem u9{α:Type}{l:List α}{n:Nat}{d:α}(h:l.length≤n):l.getD n d=d:=congrArg (·.getD d) (List.getElem?_eq_none h)
theorem C4{d:Nat}(h:Ai d=true):d∈A0:=by
 have key:∀d<38,Ai d=true→d∈A0:=by decide +kernel
 apply Classical.byContradiction
 intro hb
 by_cases hd:d<38
 ·exact hb (key d hd h)
 ·have:Lr d=T []:=u9 (Ag (show pvL.length≤38 by decide) (Nat.le_of_not_lt hd))
  unfold Ai at h
  rw[this]at h
  cases h
theorem Kj{ext:List PyData}{d:Nat}(h:Ai d=true):Ae ext d d:=.base (C4 h)
theorem Ib{ext:List PyData}{t:Nat}{S:CS}(h:R ext t S)(e0:S 0=false)(hn:Nm S):t=1↔S 1=true:=
 ⟨λe=>by subst e;exact oF h (by decide),λe=>xY (hn.top1 e0 e▸h) (by decide)⟩
noncomputable def B90:PyData→Bool
 |.tuple []=>true
 |_=>false
section
variable(k:Nat){ext:List PyData}(tl:Sg){t d o:Nat}{S:CS}
theorem Zi(hu:Ai d=true)(h:Aj d=true):d=4∨d=5:=(by decide +kernel:∀d∈A0,Ai d=true→Aj d=true→d=4∨d=5) d (C4 hu) hu h
theorem fU(hu:Ai d=true)(hd:Aj d=true)(b:Tb 1 ext):∃t' ext',(cx (k+10)).call "plain_equal_no" [Ad,iV 1,iV d] (St ext tl)=some ((.d (iN t'),.cl),St ext' tl)∧Gr 1 ext ext'∧R ext' t' (Fq d):=
 (Zi hu hd).elim (λe=>e▸(iX k tl b).imp λη=>Exists.imp λη z=>⟨z.1,z.2.1,z.2.2.r⟩) λe=>e▸(iW k tl b).imp λη=>Exists.imp λη z=>⟨z.1,z.2.1,z.2.2.r⟩
theorem U5(hR:R ext t S)(hn:Nm S)(hu:Ai d=true)(b:Tb 1 ext):
  ∃t' ext',(cx (k+11)).call "narrow_plain_equal" [Ad,iV t,iV d,bF,bT] (St ext tl)=some ((.d (iN t'),.cl),St ext' tl)∧Gr 1 ext ext'∧R ext' t' (Kw d S):=by
 have hi:=Ri hR hn
 unfold Kw
 cases e0:S 0 with
 |true=>exact⟨t,ext,R3 k tl (hi.trans e0),(Gr.refl b.wf).le (Nat.zero_le 1),hR⟩
 |false=>
  have of:=λ{t' ext'}=>j7 k tl (t':=t') (ext':=ext') (ext:=ext) (hi.trans e0) ((by decide +kernel:∀d∈A0,Ai d=true→Hf [.int 0,.int 13,.int 1] d=false) d (C4 hu) hu)
  cases e1:S 1&&Aj d with
  |true=>
   have q:=Ab e1
   obtain rfl:t=1:=(Ib hR e0 hn).mpr q.1
   exact(fU k tl hu q.2 b).imp λη=>Exists.imp λη z=>⟨of z.1,z.2⟩
  |false=>exact hR.ids.elim λps h=>(iY k tl h.1 (Kj hu) hu (λht=>(Bool.and_eq_false_iff.mp e1).elim (λq=>Bool.noConfusion (q.symm.trans ((Ib hR e0 hn).mp ht))) id) (Ag (R.len b.wf h.1) (by decide)) b).imp λη=>Exists.imp λη z=>⟨of z.1,h.2▸z.2⟩
theorem jG(hR:R ext t S)(hn:Nm S)(hu:Ai d=true)(b:Tb 160 ext):
  ∃t' ext',(cx (k+18)).call "narrow_equal" [Ax,iV t,iV d,bF,bT] (St ext tl)=some ((.d (iN t'),.cl),St ext' tl)∧Gr 160 ext ext'∧R ext' t' (jA d S):=by
 have h45:Hf [.int 4,.int 5] d=Aj d:=(by decide +kernel:∀d∈A0,Ai d=true→Hf [.int 4,.int 5] d=Aj d) d (C4 hu) hu
 refine hR.elim λps hK=>?_
 unfold jA
 cases q:Aj d with
 |false=>exact(U5 (k+6) tl hR hn hu (b.le (by decide))).imp λη=>Exists.imp λη z=>⟨jI k tl hK.1 (.one (Kj hu)) (h45.trans q) z.1,z.2.1.le (by decide),z.2.2⟩
 |true=>
  exact(U5 (k+5) tl hR hn hu (b.le (by decide))).elim λkt z=>z.elim λe1 z=>z.2.2.ids.elim λqs h=>
   have hl:4*qs.length+1≤159:=Ag (Nat.succ_le_succ (Nat.mul_le_mul_left 4 (R.len z.2.1.wf h.1))) (by decide)
   (g9 k tl (Zi hu q) z.1 h.1 (Ag (R.len z.2.1.wf h.1) (by decide)) ((Tb.gr (n:=1) (m:=159) b z.2.1).le hl)).imp λη=>Exists.imp λη y=>⟨zS k tl hK.1 (.one (Kj hu)) (h45.trans q) y.1,(z.2.1.trans y.2.1).le (Nat.succ_le_succ hl|>Ag (Nat.le_of_eq (Nat.add_comm ..))),h.2▸y.2.2⟩
theorem Tj{us:List Nat}(hO:K ext o us)(hv:pvU (us.map (A5 ext))=T [])(hb:o∈A0):B90 (Lr o)=true:=by
 rw[oI hO hb,List.map_cons,List.map_nil,Aq (.base hb)]at hv
 exact congrArg B90 hv
theorem zT{us:List Nat}(hR:R ext t S)(hn:Nm S)(hO:K ext o us)(hv:pvU (us.map (A5 ext))=T []):
  (cx (k+18)).call "narrow_equal" [Ax,iV t,iV o,bF,bT] (St ext tl)=some ((.d (iN t),.cl),St ext tl):=by
 have h45:Hf [.int 4,.int 5] o=false:=oT λe=>(Ho (show(PyData.eqv (iN 4) (iN o)||(PyData.eqv (iN 5) (iN o)||false))=true from e)).elim
  (λe=>by cases Int.ofNat.inj (eq_of_beq e);exact Bool.noConfusion (Tj hO hv (by decide))) λe=>by cases Int.ofNat.inj (eq_of_beq ((Bool.or_false _).symm.trans e));exact Bool.noConfusion (Tj hO hv (by decide))
 refine hR.elim λps hK=>jI k tl hK.1 hO h45 ?_
 cases q:Hf [.int 0,.int 13] t with
 |true=>exact R3 (k+6) tl q
 |false=>cases q2:Hf [.int 0,.int 13,.int 1] o with
  |true=>exact Zz (k+6) tl q q2
  |false=>exact j7 (k+6) tl q q2 (zJ (k+6) tl hO hv)
end
end
section
open PySem
noncomputable def Eo:CS:=λη=>false
noncomputable def rO(U:CS)(c:Nat):CS:=match Aj c with
 |true=>match Bx U (Ng c)with
  |true=>one c
  |false=>Eo
 |false=>match Nat.beq 0 c with
  |true=>one c
  |false=>match mbC c with
   |true=>Ep U
   |false=>Eo
theorem cB{ps:List Nat}{g:Nat→Bool}{kd:Kd}(σ:Sg):Gj .any [((V.d (.list (ps.map λp=>.bool (g p)))),kd)] σ=some (.d (.bool (ps.any g)),.cl):=by
 show o1 (Fu (ps.map λp=>.bool (g p))) (λl=>some (V.d (.bool (l.any id)),Kd.cl))=_
 rw[Ld]
 show some _=_
 rw[List.any_map]
 rfl
noncomputable def Rr(t o:Nat)(os:List Nat):A1:=[("tab",.val,.o 0),("t",.val,.d (iN t)),("other",.val,.d (iN o)),("strict",.val,.d (.bool true)),("out",.own,.d (.list (os.map iN)))]
theorem Tx{ext:List PyData}{t c:Nat}(h:Ae ext t c):c∈A0++[34,35,36,37]:=C1 (P:=λη c=>c∈A0++[34,35,36,37]) (λη h=>List.mem_append_left _ h) (λη η=>by decide) (λη η=>by decide) (λη η=>by decide) (λη η=>by decide) h
theorem rA{ext:List PyData}{p c:Nat}(hp:Ae ext p c):([PyData.int 0,.int 13].any λy=>PyData.eqv y (iN p))=Nat.beq 0 c:=by
 show(PyData.eqv (.int (Int.ofNat 0)) (iN p)||(PyData.eqv (.int (Int.ofNat 13)) (iN p)||false))=_
 rw[I6 hp (by decide),I6 hp (by decide),(by decide:∀c∈A0++[34,35,36,37],Nat.beq 13 c=false) c (Tx hp),Bool.or_false,Bool.or_false]
section
variable(k:Nat){ext:List PyData}(tl:Sg){t o p c:Nat}{ps us os:List Nat}
theorem B63(hp:Ae ext p c)(ho:K ext o us):Ce (cx (k+15)) "nullish_side" 515019088 (Rr t o os++([("part",.val,.d (iN p))]:A1)) (St ext tl) (us.map λu=>.bool (Ng c (A5 ext u))) (St ext tl):=
 xK "nullish_side" 515019088 [.c (Aa _ tl ho)] (by kernel_rfl) (by kernel_rfl) (Fo.map (i:=iN) (f:=λu=>.bool (Ng c (A5 ext u))) λu hu=>xT [.c (Qx _ tl hp (ho.parts u hu))])
theorem rN(hp:Ae ext p c)(ho:K ext o us)(w:Wf ext)(q1:Aj c=true)(hos:os.length≤4000):fB (cx (k+15)) (Eb "nullish_side" 513) (Cg "nullish_side") tl (Rr t o) 3 (cond (Bx (A9 ext us) (Ng c)) (one c) λη=>false) ext (iN p) os:=
 .cond (w:=cx (k+15)) (st:=Eb "nullish_side" 513) (y:=iN p) (.sub (Qi (w:=cx (k+15)) (.b 0 .l .l) (en:=bs [Bx (A9 ext us) (Ng c)]) (f:=λη=>.nx) (l':=λe=>Rr t o (cond (e 0) (os++[p]) os)++([("part",.val,.d (iN p))]:A1)) (σ':=λη=>St ext tl) [.cw (A2 _ tl hp),.t 514011039 (show([PyData.int 4,.int 5,.int 6].any λy=>PyData.eqv y (iN (B1 c)))=true from q1),
  .k (B63 k tl (t:=t) (os:=os) hp ho),
  .v 515015089 (cB (ps:=us) (g:=λu=>Ng c (A5 ext u)) (kd:=.fr) (St ext tl)),.g 515015089 0 (Ew ho.pts _),.v 516016032 (E8 (x:=p) hos)] λe=>by kernel_rfl) .refl (.app rfl)) ((Gr.refl w).le (Nat.zero_le 3)) hp.r
theorem rJ(hp:Ae ext p c)(ho:K ext o us)(hc1:c≠1)(hm:∀u∈us,u∈D4)(hne:us≠[])(hl2:us.length≤2)(b:Tb 3 ext)(hos:os.length≤4000):fB (cx (k+15)) (Eb "nullish_side" 513) (Cg "nullish_side") tl (Rr t o) 3 (rO (A9 ext us) c) ext (iN p) os:=by
 unfold rO
 cases q1:Aj c with
 |true=>exact rN k tl hp ho b.wf q1 hos
 |false=>
  have q1:([PyData.int 4,.int 5,.int 6].any λy=>PyData.eqv y (iN (B1 c)))=false:=q1
  have h0:=rA hp
  cases q2:Nat.beq 0 c<;>rw[q2]at h0
  ·have mb:=aL (k+7) tl hp
   cases q3:mbC c<;>rw[q3]at mb
   ·exact .no (.inl rfl) (.sub (Je (l':=Rr t o os++([("part",.val,.d (iN p))]:A1)) [.c (A2 _ tl hp),.t 514011039 q1,.t 517013031 h0,.c mb] (by kernel_rfl)) .refl (.app rfl)) ((Gr.refl b.wf).le (Nat.zero_le 3))
   ·obtain rfl:=(by decide +kernel:∀c<38,Aj c=false→Nat.beq 0 c=false→mbC c=true→c≠1→c=21) _ (C3 hp) q1 q2 q3 hc1
    obtain rfl:p=21:=F9 hp (by decide)
    exact(aZ k tl ho hm hne hl2 b).elim λu z=>z.elim λe2 z=>.yes (.sub (Je (l':=Rr t o (os++[u])++([("part",.val,.d (iN 21))]:A1)) [.c (A2 _ tl hp),.t 514011039 q1,.t 517013031 h0,.c mb,.c z.1,.v 520012049 (E8 (x:=u) hos)] (by kernel_rfl)) .refl (.app rfl)) z.2.1 z.2.2
  ·exact .yes (.sub (Je (l':=Rr t o (os++[p])++([("part",.val,.d (iN p))]:A1)) [.c (A2 _ tl hp),.t 514011039 q1,.t 517013031 h0,.v 518012028 (E8 (x:=p) hos)] (by kernel_rfl)) .refl (.app rfl)) ((Gr.refl b.wf).le (Nat.zero_le 3)) hp.r
theorem rL(hK:K ext t ps)(hO:K ext o us)(h1:t≠1)(hp1:∀p∈ps,A5 ext p≠1)(hm:∀u∈us,u∈D4)(hne:us≠[])(hl2:us.length≤2)(hlen:ps.length≤4000)(b:Tb (3*ps.length+1) ext):
  ∃t' ext',(cx (k+16)).call "nullish_side" [Ad,iV t,iV o,bT] (St ext tl)=some ((.d (iN t'),.cl),St ext' tl)∧Gr (3*ps.length+1) ext ext'∧R ext' t' (N (lift (rO (A9 ext us)) (A9 ext ps))):=
 cG (k:=k+7) (f:=rO (A9 ext us)) (w:=cx (k+15)) (st:=Eb "nullish_side" 513) (sc:=Cg "nullish_side") (tl:=tl) (fr:=Rr t o) hK hlen b (λp hpm{e1 n1} g b1 os hos=>Cy g hO.pts▸rJ k tl ((hK.parts p hpm).mono g) (hO.mono g) (hp1 p hpm) hm hne hl2 b1 hos) λos e1 t' e2 lp e g hR=>
  ⟨t',e2,xF [.t 510007019 (Cn (b:=1) h1),.s 513 (P3 (l:=Rr t o []) (σ:=St ext tl) (x:=.tuple (ps.map iN)) [.c (Aa _ tl hK)] (by kernel_rfl) (by kernel_rfl) (by kernel_rfl) rfl lp),.c e],g,hR⟩
end
end
section
open PySem
noncomputable def Au(n d:Nat):Bool:=PyData.eqv (iN (B1 d)) (.int (Int.ofNat n))
noncomputable def Sw(U:CS):CS:=match Bx U (Au 0)||Bx U (Au 6)with
 |true=>one 1
 |false=>match Bx U (Au 7)with
  |true=>match Gl U (Au 7)&&!Bx U (Nat.beq 11)with
   |true=>one 10
   |false=>one 1
  |false=>U
theorem Zy(i:Int):Dv (.int i)=true:=rfl
theorem sW{x:Nat}{qs:List Nat}{σ:Sg}:Cp .In (.d (.int (Int.ofNat x))) (.d (.list (qs.map iN))) σ=some (qs.any λq=>PyData.eqv (iN q) (.int (Int.ofNat x))):=by
 show(match Dv (.int (Int.ofNat x))&&(qs.map iN).all Dv with|true=>some ((qs.map iN).any λy=>PyData.eqv y (.int (Int.ofNat x)))|false=>none)=_
 have:(qs.map iN).all Dv=true:=by
  rw[List.all_map,List.all_eq_true]
  intro q _
  rfl
 rw[this,Zy,List.any_map]
 rfl
section
variable(k:Nat){ext:List PyData}(tl:Sg)
theorem sH:[10,11,17,19,20].map (λt=>(cx (k+9)).call "lets_primitive" [Ad,iV t] (St ext tl))=[10,11,17,19,20].map (λt=>some ((.d (.bool (Nat.beq 11 t)),.cl),St ext tl)):=by kernel_rfl
theorem sG{t c:Nat}(h:Ae ext t c)(hc:Au 7 c=true):(cx (k+9)).call "lets_primitive" [Ad,iV t] (St ext tl)=some ((.d (.bool (Nat.beq 11 c)),.cl),St ext tl):=by
 have hm:c∈[10,11,17,19,20]:=(by decide +kernel:∀c<38,Au 7 c=true→c∈[10,11,17,19,20]) c (C3 h) hc
 have hl:c<34:=(by decide:∀c∈[10,11,17,19,20],c<34) c hm
 have:=F9 h hl
 subst this
 exact Ay (sH k tl) hm
theorem pM{o:Nat}{us:List Nat}(hO:K ext o us)(b:Tb 0 ext):
  ∃t',(cx (k+11)).call "unknown_equal" [Ad,iV o,bT] (St ext tl)=some ((.d (iN t'),.cl),St ext tl)∧R ext t' (Sw (A9 ext us)):=by
 have a0:=Ew hO.pts (Au 0)
 have a6:=Ew hO.pts (Au 6)
 have a7:=Ew hO.pts (Au 7)
 have s7:=Ha hO.pts (Au 7)
 have a11:=Ew hO.pts (Nat.beq 11)
 have hin:∀n,Cp .In (.d (.int (Int.ofNat n))) (.d (.list ((us.map λp=>B1 (A5 ext p)).map iN))) (St ext tl)=some (Bx (A9 ext us) (Au n)):=λn=>by
  rw[← Ew hO.pts (Au n)];exact sW.trans (by rw[List.any_map];rfl)
 have i0:=hin 0
 have i6:=hin 6
 have i7:=hin 7
 have c1:∀ρ,Bn ρ [("tab",.val,.o 0),("other",.val,.d (iN o)),("strict",.val,.d (.bool true))]→J7 (rl (cx (k+10))) (lc "unknown_equal" 525011063) (Cg "unknown_equal") ρ (St ext tl)=some ((.d (.list ((us.map λp=>B1 (A5 ext p)).map iN)),.fr),St ext tl):=by
  rw[List.map_map]
  exact xC [.c (Aa _ tl hO)] (by kernel_rfl) (by kernel_rfl) (Fo.map (i:=iN) λp hp=>xT [.c (A2 _ tl (hO.parts p hp))])
 have c2:∀ρ,Bn ρ [("tab",.val,.o 0),("other",.val,.d (iN o)),("strict",.val,.d (.bool true)),("fams",.own,.d (.list ((us.map λp=>B1 (A5 ext p)).map iN)))]→J7 (rl (cx (k+10))) (lc "unknown_equal" 529019051) (Cg "unknown_equal") ρ (St ext tl)=some ((.d (.list ((us.map λp=>B1 (A5 ext p)).map λf=>.bool (PyData.eqv (iN f) (.int 7)))),.fr),St ext tl):=
  xC [] (by kernel_rfl) (by kernel_rfl) (Fo.map (i:=iN) λp hp=>xT [])
 have l2:=Ij (ps:=us.map λp=>B1 (A5 ext p)) (g:=λf=>PyData.eqv (iN f) (.int 7)) (kd:=.fr) (St ext tl)
 rw[show((us.map λp=>B1 (A5 ext p)).all λf=>PyData.eqv (iN f) (.int 7))=Gl (A9 ext us) (Au 7)by rw[← s7,List.all_map];rfl]at l2
 have go:∀t' c,Ae ext t' c→(cx (k+11)).call "unknown_equal" [Ad,iV o,bT] (St ext tl)=some ((.d (iN t'),.cl),St ext tl)→Sw (A9 ext us)=one c→∃t',(cx (k+11)).call "unknown_equal" [Ad,iV o,bT] (St ext tl)=some ((.d (iN t'),.cl),St ext tl)∧R ext t' (Sw (A9 ext us)):=λt' c hp e h=>⟨t',e,h▸hp.r⟩
 cases q0:Bx (A9 ext us) (Au 0)<;>rw[q0]at i0
 ·cases q6:Bx (A9 ext us) (Au 6)<;>rw[q6]at i6
  ·cases q7:Bx (A9 ext us) (Au 7)<;>rw[q7]at i7
   ·refine⟨o,?_,by unfold Sw;rw[q0,q6,q7];exact hO.r⟩
    exact xF [.e 525011063 c1,.b 526021038 i0,.b 526042058 i6,.b 528007022 i7]
   ·cases q8:Gl (A9 ext us) (Au 7)<;>rw[q8]at l2
    ·refine go 1 1 (.base (by decide)) ?_ (by unfold Sw;rw[q0,q6,q7,q8];rfl)
     exact xF [.e 525011063 c1,.b 526021038 i0,.b 526042058 i6,.b 528007022 i7,.e 529019051 c2,.v 529015052 l2]
    ·have hall:∀u∈us,Au 7 (A5 ext u)=true:=Be (s7.trans q8)
     have c3:∀ρ,Bn ρ [("tab",.val,.o 0),("other",.val,.d (iN o)),("strict",.val,.d (.bool true)),("fams",.own,.d (.list ((us.map λp=>B1 (A5 ext p)).map iN))),("sure",.val,.d (.bool true))]→J7 (rl (cx (k+10))) (lc "unknown_equal" 530029089) (Cg "unknown_equal") ρ (St ext tl)=some ((.d (.list (us.map λu=>.bool (Nat.beq 11 (A5 ext u)))),.fr),St ext tl):=
      xC [.c (Aa _ tl hO)] (by kernel_rfl) (by kernel_rfl) (Fo.map (i:=iN) λp hp=>xT [.c (sG (k+1) tl (hO.parts p hp) (hall p hp))])
     have l3:=cB (ps:=us) (g:=λu=>Nat.beq 11 (A5 ext u)) (kd:=.fr) (St ext tl)
     rw[a11]at l3
     cases q9:Bx (A9 ext us) (Nat.beq 11)<;>rw[q9]at l3
     ·refine go 10 10 (.base (by decide)) ?_ (by unfold Sw;rw[q0,q6,q7,q8,q9];rfl)
      exact xF [.e 525011063 c1,.b 526021038 i0,.b 526042058 i6,.b 528007022 i7,.e 529019051 c2,.v 529015052 l2,.e 530029089 c3,.v 530025090 l3]
     ·refine go 1 1 (.base (by decide)) ?_ (by unfold Sw;rw[q0,q6,q7,q8,q9];rfl)
      exact xF [.e 525011063 c1,.b 526021038 i0,.b 526042058 i6,.b 528007022 i7,.e 529019051 c2,.v 529015052 l2,.e 530029089 c3,.v 530025090 l3]
  ·refine go 1 1 (.base (by decide)) ?_ (by unfold Sw;rw[q0,q6];rfl)
   exact xF [.e 525011063 c1,.b 526021038 i0,.b 526042058 i6]
 ·refine go 1 1 (.base (by decide)) ?_ (by unfold Sw;rw[q0];rfl)
  exact xF [.e 525011063 c1,.b 526021038 i0]
end
end
section
open PySem
noncomputable def O5:List Nat:=[10,11,17,19,20]
noncomputable def apart(c d:Nat):Bool:=(Nat.beq 17 c&&Nat.beq 19 d)||(Nat.beq 19 c&&Nat.beq 17 d)
noncomputable def lG(d:Nat):Bool:=[PyData.int 1,.int 2,.int 3].any λy=>PyData.eqv y (iN (B1 d))
noncomputable def Lv(c d:Nat):Bool:=match Au 7 c,Au 7 d with
 |true,true=>!apart c d
 |true,false=>match Au 0 d with
  |true=>Ng c d
  |false=>Nat.beq 11 c&&lG d
 |false,true=>match Au 0 c with
  |true=>Ng c d
  |false=>Nat.beq 11 d&&lG c
 |false,false=>Ng c d
section
variable(k:Nat){ext:List PyData}(tl:Sg)
theorem r7{o t':Nat}(h:(cx (k+11)).call "unknown_equal" [Ad,iV o,bT] (St ext tl)=some ((.d (iN t'),.cl),St ext tl)):(cx (k+12)).call "plain_equal_yes" [Ad,iV 1,iV o,bT] (St ext tl)=some ((.d (iN t'),.cl),St ext tl):=by
 exact xF [.c h]
theorem iU{t o t':Nat}{us:List Nat}{ext':List PyData}(hO:K ext o us)(h1:t≠1)(hn:(!us.isEmpty&&us.all λp=>Aj (A5 ext p))=true)(h:(cx (k+16)).call "nullish_side" [Ad,iV t,iV o,bT] (St ext tl)=some ((.d (iN t'),.cl),St ext' tl)):
  (cx (k+17)).call "plain_equal_yes" [Ad,iV t,iV o,bT] (St ext tl)=some ((.d (iN t'),.cl),St ext' tl):=by
 have e1:PyData.eqv (iN t) (.int 1)=false:=Cn (b:=1) h1
 have nk:=E9 (k+11) tl hO
 rw[hn]at nk
 exact xF [.t 535007019 e1,.c nk,.c h]
theorem dN{s t:Nat}(hs:s∈O5)(ht:t∈O5)(b:Tb 1 ext):∃r ext',(cx (k+15)).call "inter" [Ad,(.d (.tuple [iN s,iN t]),.cl)] (St ext tl)=some ((.d (iN r),.cl),St ext' tl)∧Gr 1 ext ext'∧(r=2↔apart s t=true)∧(apart s t=true→ext'=ext):=by
 have key:∀s∈O5,∀t∈O5,((s,t)∈D0∧s≠21∧apart s t=false)∨∃r∈[10,11,17,19,20,2],(s,t,r)∈Dl∧(r=2↔apart s t=true):=by decide +kernel
 rcases key s hs t ht with⟨h1,h2,h3⟩|⟨r,_,h1,h2⟩
 ·obtain⟨r,ext',e,g,hr⟩:=Xw k tl h1 h2 b
  exact⟨r,ext',e,g,⟨λh=>absurd h hr,λh=>nomatch h3.symm.trans h⟩,λh=>nomatch h3.symm.trans h⟩
 ·exact⟨r,ext,Ay (O3 k tl (ext:=ext)) h1,(Gr.refl b.wf).le (by decide),h2,λη=>rfl⟩
theorem Q4:[(17,19),(19,17)].map (λp=>(cx (k+12)).call "RefHost.fits" [Ax,iV p.1,iV p.2] (St ext tl))=[(17,19),(19,17)].map (λp=>some ((.d (.bool false),.cl),St ext tl)):=by kernel_rfl
theorem Nl:O5.map (λt=>(cx (k+12)).call "is_loose" [Ad,iV t] (St ext tl))=O5.map (λt=>some ((.d (.bool (Nat.beq 11 t)),.cl),St ext tl)):=by kernel_rfl
theorem Ju{t c:Nat}(h:Ae ext t c)(hc:Au 7 c=true):t=c∧c∈O5:=
 have hm:c∈O5:=(by decide +kernel:∀c<38,Au 7 c=true→c∈O5) c (C3 h) hc
 ⟨F9 h ((by decide:∀c∈O5,c<34) c hm),hm⟩
theorem s8{s t c d:Nat}(hs:Ae ext s c)(ht:Ae ext t d)(b:Tb 1 ext):
  ∃ext',(cx (k+16)).call "part_meets" [Ax,iV s,iV t,bT] (St ext tl)=some ((.d (.bool (Lv c d)),.cl),St ext' tl)∧Gr 1 ext ext':=by
 have hpm:=Qx (k+9) tl hs ht
 have g0:=(Gr.refl b.wf).le (m:=1) (by decide)
 unfold Lv
 cases q1:Au 7 c<;>cases q2:Au 7 d
 ·refine⟨ext,?_,g0⟩
  exact xF [.c (A2 _ tl hs),.c (A2 _ tl ht),.t 581007020 q1,.t 583007020 q1,.t 585007020 q2,.c hpm]
 ·obtain⟨q,hm2⟩:=Ju ht q2
  subst q
  have hl:=Ay (Nl (k+3) tl (ext:=ext)) hm2
  cases q3:Au 0 c
  ·refine⟨ext,?_,g0⟩
   cases q4:Nat.beq 11 t<;>rw[q4]at hl
   ·exact xF [.c (A2 _ tl hs),.c (A2 _ tl ht),.t 581007020 q1,.t 583007020 q1,.t 585007020 q2,.t 585025040 (congrArg not q3),.c hl]
   ·exact xF [.c (A2 _ tl hs),.c (A2 _ tl ht),.t 581007020 q1,.t 583007020 q1,.t 585007020 q2,.t 585025040 (congrArg not q3),.c hl]
  ·refine⟨ext,?_,g0⟩
   exact xF [.c (A2 _ tl hs),.c (A2 _ tl ht),.t 581007020 q1,.t 583007020 q1,.t 585007020 q2,.t 585025040 (congrArg not q3),.c hpm]
 ·have⟨q,hm⟩:=Ju hs q1
  subst q
  have hl:=Ay (Nl (k+3) tl (ext:=ext)) hm
  cases q3:Au 0 d
  ·refine⟨ext,?_,g0⟩
   cases q4:Nat.beq 11 s<;>rw[q4]at hl
   ·exact xF [.c (A2 _ tl hs),.c (A2 _ tl ht),.t 581007020 q1,.t 581025038 q2,.t 583007020 q1,.t 583025040 (congrArg not q3),.c hl]
   ·exact xF [.c (A2 _ tl hs),.c (A2 _ tl ht),.t 581007020 q1,.t 581025038 q2,.t 583007020 q1,.t 583025040 (congrArg not q3),.c hl]
  ·refine⟨ext,?_,g0⟩
   exact xF [.c (A2 _ tl hs),.c (A2 _ tl ht),.t 581007020 q1,.t 581025038 q2,.t 583007020 q1,.t 583025040 (congrArg not q3),.t 585007020 q2,.c hpm]
 ·have⟨q,hm⟩:=Ju hs q1
  subst q
  obtain⟨q,hm2⟩:=Ju ht q2
  subst q
  have⟨r,ext',e,g,hr,hex⟩:=dN k tl hm hm2 b
  refine⟨ext',?_,g⟩
  cases q3:apart s t
  ·have er:(!PyData.eqv (iN r) (.int 2))=true:=congrArg not (Cn (b:=2) λh=>nomatch q3.symm.trans (hr.mp h))
   exact xF [.c (A2 _ tl hs),.c (A2 _ tl ht),.t 581007020 q1,.t 581025038 q2,.c e,.t 582015042 er]
  ·have h2:=hr.mpr q3
   subst h2
   have h2:=hex q3
   subst h2
   have hst:=(by decide +kernel:∀s∈O5,∀t∈O5,apart s t=true→(s,t)∈[(17,19),(19,17)]∧(t,s)∈[(17,19),(19,17)]) s hm t hm2 q3
   have f1:=Ay (Q4 (k+3) tl (ext:=ext')) hst.1
   have f2:=Ay (Q4 (k+3) tl (ext:=ext')) hst.2
   dsimp only at f1 f2
   exact xF [.c (A2 _ tl hs),.c (A2 _ tl ht),.t 581007020 q1,.t 581025038 q2,.c e,.c f1,.c f2]
end
end
section
open PySem
noncomputable def Hu(U:CS)(c:Nat):CS:=λd=>U d&&Lv c d
noncomputable def eD(U:CS)(c:Nat):CS:=match G3 (Hu U c)with
 |false=>Eo
 |true=>match Au 7 c&&Gl (Hu U c) C8 with
  |true=>N (Hu U c)
  |false=>qM c (Hu U c)
theorem dQ{ext:List PyData}{us:List Nat}(h:∀p∈us,∃c,Ae ext p c)(c:Nat):A9 ext (us.filter λu=>Lv c (A5 ext u))=Hu (A9 ext us) c:=by
 funext d
 unfold Hu
 rw[Bool.eq_iff_iff,Bool.and_eq_true,Ba,Ba]
 constructor
 ·rintro⟨p,hp,rfl⟩
  obtain⟨h1,h2⟩:=M0 hp
  exact⟨⟨p,h1,rfl⟩,h2⟩
 ·rintro⟨⟨p,hp,rfl⟩,e⟩
  exact⟨p,oR ⟨hp,e⟩,rfl⟩
theorem jT{c:Nat}(h:B1 c=0)(d:Nat):Lv c d=true:=by
 have h7:Au 7 c=false:=by unfold Au;rw[h];rfl
 have h0:Au 0 c=true:=by unfold Au;rw[h];rfl
 unfold Lv
 rw[h7,h0]
 cases Au 7 d<;>exact Ts h d
set_option tactic.hygienic true in
set_option backward.match.sparseCases true in
theorem d6{ext:List PyData}{t c:Nat}(h:Ae ext t c):Nat.beq 12 c=false:=(by decide:∀c∈A0++[34,35,36,37],Nat.beq 12 c=false) c (Tx h)
theorem A79(c:Nat)(hc:c<38)(d:Nat)(hd:d<38)(hd2:Nat.beq 12 d=false)(h1:Au 7 c=true)(h2:Lv c d=true)(h3:C8 d=true):c=11∧d<34∧(11,d,d)∈Dl:=by
 have key:((List.range 38).all λc=>(List.range 38).all λd=>!(!Nat.beq 12 d&&(Au 7 c&&(Lv c d&&C8 d)))||(Nat.beq 11 c&&(Nat.blt d 34&&decide ((11,d,d)∈Dl))))=true:=by decide +kernel
 have k:=Be (Be key c (En hc)) d (En hd)
 rw[hd2,h1,h2,h3]at k
 have k:(Nat.beq 11 c&&(Nat.blt d 34&&decide ((11,d,d)∈Dl)))=true:=k
 obtain⟨k1,k2⟩:=Ab k
 obtain⟨k2,k3⟩:=Ab k2
 exact⟨(Bu k1).symm,Vp k2,of_decide_eq_true k3⟩
noncomputable def dX(t o:Nat):A1:=[("host",.val,.o 15),("part",.val,.d (iN t)),("other",.val,.d (iN o)),("strict",.val,.d (.bool true)),("tab",.val,.o 0)]
section
variable(k:Nat){ext e:List PyData}(tl:Sg){t o c:Nat}{us hs:List Nat}
theorem uQ{u:Nat}(hp:Ae e t c){d:Nat}(hu:Ae e u d)(b:Tb 1 e):∃e2,Tn (cx (k+16)) (lc "equal_part" 593011087) (dX t o) (iN u) (St e tl) (cond (Lv c d) (some (iN u)) none) (St e2 tl)∧Gr 1 e e2:=
 (s8 k tl hp hu b).imp λe2 h=>⟨Ze (.b 0 .l .l) (en:=bs [Lv c d]) (σ':=λη=>St e2 tl) (y:=λe=>cond (e 0) (some (iN u)) none) [.cw h.1,.g 593051086 0 rfl] λe=>by kernel_rfl,h.2⟩
theorem uT{C:Prop}(hp:Ae ext t c):∀{us:List Nat}{e n},(∀u∈us,∃d,Ae ext u d)→Gr n ext e→Tb (us.length+1) e→(∀e',Fo (cx (k+16)) (lc "equal_part" 593011087) (dX t o) (us.map iN) (St e tl) ((us.filter λu=>Lv c (A5 ext u)).map iN) (St e' tl)→Gr us.length e e'→Tb 1 e'→C)→C:=by
 intro us
 induction us with
 |nil=>exactλ{e _} η η b z=>z e .nil (Gr.refl b.wf) b
 |cons u us ih=>
  exactλ{e n} hu g b z=>(uQ k tl (o:=o) (hp.mono g) ((E7 (hu u (.head _)).choose_spec).mono g) (b.le (Nat.succ_le_succ (Nat.zero_le _)))).elim λe2 h=>
   ih (λq hq=>hu q (.tail _ hq)) (g.trans h.2) (Tb.gr (n:=1) (b.le (Nat.le_of_eq (Nat.add_comm ..))) h.2) λe' fo g' b'=>z e' (by
    have:=Fo.cons h.1 fo
    rw[List.filter_cons]
    cases q:Lv c (A5 ext u)<;>rw[q]at this<;>exact this) ((h.2.trans g').le (Nat.le_of_eq (Nat.add_comm ..))) b'
noncomputable def eqX(c:Nat)(H:CS):CS:=match Au 7 c&&Gl H C8 with
 |true=>N H
 |false=>qM c H
theorem A81(hm:∀u∈hs,∃d,Ae e u d):Ce (cx (k+16)) "equal_part" 596044091 (dX t o++([("hits",.own,.d (.list (hs.map iN)))]:A1)) (St e tl) (hs.map λu=>.bool (C8 (A5 e u))) (St e tl):=
 xK "equal_part" 596044091 [] (by kernel_rfl) (by kernel_rfl) (Fo.map (i:=iN) λu hu=>xT [.c (Pn (k+11) tl (E7 (hm u hu).choose_spec))])
theorem A80(ht:t=11)(hm:∀u∈hs,(11,u,u)∈Dl):Ce (cx (k+16)) "equal_part" 597026067 (dX t o++([("hits",.own,.d (.list (hs.map iN)))]:A1)) (St e tl) (hs.map iN) (St e tl):=
 xK "equal_part" 597026067 [] (by kernel_rfl) (by kernel_rfl) (Fo.map (i:=iN) (f:=iN) λu hu=>xT [.c (ht▸Ay (O3 (k+1) tl (ext:=e)) (hm u hu):(cx (k+16)).call "inter" [Ad,(.d (.tuple [iN t,iN u]),.cl)] (St e tl)=some ((.d (iN u),.cl),St e tl))])
theorem uS{h:Nat}(c1:Ce (cx (k+16)) "equal_part" 593011087 (dX t o) (St ext tl) ((h::hs).map iN) (St e tl))(hp:Ae e t c)(hm:∀u∈h::hs,∃d,Ae e u d)(hc:B1 c=0→∃x∈h::hs,Aj (A5 e x)=false)(me:∀u∈h::hs,Lv c (A5 e u)=true)(b:Tb 1 e):
  ∃t' e',(cx (k+17)).call "equal_part" [Ax,iV t,iV o,bT] (St ext tl)=some ((.d (iN t'),.cl),St e' tl)∧Gr 1 e e'∧R e' t' (eqX c (A9 e (h::hs))):=by
 have c2:=A81 k tl (t:=t) (o:=o) hm
 have al:=Ij (ps:=h::hs) (g:=λu=>C8 (A5 e u)) (kd:=.fr) (St e tl)
 have sh:=Jo (k+7) tl hp hm hc b
 unfold eqX
 rw[← Ha hm]
 cases q3:Au 7 c
 ·exact sh.imp λt'=>Exists.imp λe' z=>⟨xF [.k c1,.c (A2 _ tl hp),.t 596007035 q3,.c z.1],z.2⟩
 ·cases q4:(h::hs).all λu=>C8 (A5 e u)<;>rw[q4]at al
  ·exact sh.imp λt'=>Exists.imp λe' z=>⟨xF [.k c1,.c (A2 _ tl hp),.t 596007035 q3,.k c2,.v 596040092 al,.c z.1],z.2⟩
  ·have fp:∀u∈h::hs,t=11∧(11,u,u)∈Dl:=λu hu=>by
    have hu':=E7 (hm u hu).choose_spec
    have q:=A79 c (C3 hp) _ (C3 hu') (d6 hu') q3 (me u hu) (Be q4 u hu)
    rw[← F9 hu' q.2.1]at q
    exact⟨F9 (q.1▸hp) (by decide),q.2.2⟩
   exact(B2 (k+8) tl (x:=.list ((h::hs).map iN)) (kd:=.fr) rfl b (rD hm)).imp λt'=>Exists.imp λe' z=>⟨xF [.k c1,.c (A2 _ tl hp),.t 596007035 q3,.k c2,.v 596040092 al,.k (A80 k tl (e:=e) (o:=o) (fp h (.head _)).1 λu hu=>(fp u hu).2),.c z.1],z.2.1,Lf (ext:=e) (h::hs)▸z.2.2⟩
theorem uR(hp:Ae ext t c)(hO:K ext o us)(hn:(!us.isEmpty&&us.all λp=>Aj (A5 ext p))=false)(b:Tb (us.length+1) ext):
  ∃t' ext',(cx (k+17)).call "equal_part" [Ax,iV t,iV o,bT] (St ext tl)=some ((.d (iN t'),.cl),St ext' tl)∧Gr (us.length+1) ext ext'∧R ext' t' (eD (A9 ext us) c):=
 uT k tl (o:=o) hp hO.pts (Gr.refl b.wf) b λe fo g b1=>by
  have c1:Ce (cx (k+16)) "equal_part" 593011087 (dX t o) (St ext tl) _ (St e tl):=xK "equal_part" 593011087 [.c (Aa _ tl hO)] (by kernel_rfl) (by kernel_rfl) fo
  have hm:∀u∈us.filter λu=>Lv c (A5 ext u),∃d,Ae e u d:=λu hu=>⟨_,(hO.parts u (M0 hu).1).mono g⟩
  have me:∀u∈us.filter λu=>Lv c (A5 ext u),Lv c (A5 e u)=true:=λu hu=>(congrArg (Lv c) (Mx g (hO.parts u (M0 hu).1))).trans (M0 hu).2
  have hH:=(Cy g λu hu=>hO.pts u (M0 hu).1).trans (dQ hO.pts c)
  have hc:=λ{h hs}=>bN (e:=e) (f:=λu=>Lv c (A5 ext u)) (c:=c) (h:=h) (hs:=hs) (λh0 u=>jT h0 _) (Ko g hO hn)
  generalize(us.filter λu=>Lv c (A5 ext u))=hs at c1 hm me hH hc
  have q:=Jn hm
  rw[hH]at q
  unfold eD
  rw[q,← hH]
  cases hs with
  |nil=>exact⟨2,e,xF [.k c1],g.le (Nat.le_succ _),[],.never,λη=>rfl⟩
  |cons h hs=>exact(uS k tl c1 (hp.mono g) hm (hc rfl) me b1).imp λt'=>Exists.imp λe' z=>⟨z.1,g.trans z.2.1,z.2.2⟩
end
end
section
open PySem
theorem b8{ext:List PyData}{ps:List Nat}(h:∀p∈ps,∃c,Ae ext p c){c:Nat}(e:A9 ext ps c=true):c<38:=by
 obtain⟨p,hp,rfl⟩:=Ba.mp e
 obtain⟨d,hd⟩:=h p hp
 rw[Aq hd]
 exact C3 hd
theorem W1{H:CS}{f:Nat→Bool}(h:Gl H f=true){c:Nat}(hc:c<38)(e:H c=true):f c=true:=by
 have:=Be h c (En hc)
 rw[e]at this
 exact this
theorem Ds{f g:Nat→CS}{S:CS}(h:∀c,c<38→S c=true→f c=g c):lift f S=lift g S:=
 funext λd=>Bw λc hc=>by
  cases e:S c with
  |false=>rfl
  |true=>rw[h c (List.mem_range.mp hc) e]
theorem To{c:Nat}(hc:c<38)(h:C8 c=true):Au 7 c=false:=(by decide +kernel:∀c<38,C8 c=true→Au 7 c=false) c hc h
theorem iQ{S U:CS}(hU:∀d,U d=true→d<38)(h1:Gl S C8=true)(h2:Gl U C8=true):lift (cI U) S=lift (eD U) S:=by
 refine Ds λc hc e=>?_
 have p1:=To hc (W1 h1 hc e)
 have hh:Hu U c=Ly U c:=by
  funext d
  show(U d&&Lv c d)=(U d&&Ng c d)
  cases q:U d with
  |false=>rfl
  |true=>
   have p2:=To (hU d q) (W1 h2 (hU d q) q)
   unfold Lv
   rw[p1,p2]
 unfold cI eD
 rw[hh,p1,Bool.false_and]
 cases G3 (Ly U c)<;>rfl
noncomputable def Dw(U S:CS):CS:=match S 0 with
 |true=>S
 |false=>match U 0||U 1 with
  |true=>S
  |false=>match S 1 with
   |true=>Sw U
   |false=>match G3 U&&Gl U Aj with
    |true=>N (lift (rO U) S)
    |false=>N (lift (eD U) S)
theorem dO{ext:List PyData}{o:Nat}{U:CS}(h:R ext o U)(hn:Nm U):Hf [.int 0,.int 13,.int 1] o=(U 0||U 1):=by
 have h0:=Ri h hn
 have e1:Hf [.int 0,.int 13,.int 1] o=(Hf [.int 0,.int 13] o||PyData.eqv (.int 1) (iN o)):=by
  unfold Hf
  rw[List.any_cons,List.any_cons,List.any_cons,List.any_nil,List.any_cons,List.any_cons,List.any_nil,Bool.or_false,Bool.or_false,Bool.or_assoc]
 rw[e1,h0]
 cases e0:U 0 with
 |true=>rfl
 |false=>
  rw[Bool.false_or,Bool.false_or,Bool.eq_iff_iff,← Ib h e0 hn]
  exact⟨λe=>(Int.ofNat.inj (eq_of_beq e)).symm,λe=>e▸rfl⟩
theorem xFo(tr:Tr)(ok:(Nat→Bool)→Bool){k:Nat}{en:Nat→Bool}(as:List (Aw (wE (cx k) en))){f:Str}{rs:List RV}{σ:Sg}{r:(Nat→Bool)→RV}{σ':(Nat→Bool)→Sg}(h:∀e,oV (λe=>cond (ok e) (some (Mc (Iw (Xe e) f rs ⟨σ,as,[]⟩))) none) tr e=oW (λe=>cond (ok e) (some (Hc (Iw (Xe e) f rs ⟨σ,as,[]⟩) (r e) (σ' e))) none) tr e)(q:ok en=true):(cx (k+1)).call f rs σ=some (r en,σ' en):=by
 have z:=S8 en (h en)
 rw[q]at z
 exact(.o1 λfd=>.o1 λρ=>.sq (fE fd.body .self) λη η η η η=>.o1 λη=>.ret _:Rl (w:=wE (cx k) en) ⟨σ,as,[]⟩ (Iw X f rs ⟨σ,as,[]⟩) (Iw (rl (cx k)) f rs σ)).end (Cd z)
section
variable(k:Nat){ext e1 e2:List PyData}(tl:Sg){t o t':Nat}{ps us:List Nat}{S U:CS}
noncomputable def plB(ext:List PyData)(t:Nat)(ps us:List Nat):Bool:=((ps.all λp=>C8 (A5 ext p))&&(us.all λp=>C8 (A5 ext p)))||(PyData.eqv (iN t) (.int 1)||(!us.isEmpty&&us.all λp=>Aj (A5 ext p)))
theorem Xj(hK:K ext t ps)(hO:K ext o us)(hc:plB ext t ps us=true)(h:(cx (k+18)).call "narrow_plain_equal" [Ad,iV t,iV o,bT,bT] (St ext tl)=some ((.d (iN t'),.cl),St e1 tl)):(cx (k+19)).call "narrow_equal" [Ax,iV t,iV o,bT,bT] (St ext tl)=some ((.d (iN t'),.cl),St e1 tl):=by
 have f1:=Dg (k+17) tl (ext:=ext) t
 have f2:=Dg (k+17) tl (ext:=ext) o
 have nk:=E9 (k+13) tl hO
 have a1:=D3 (k+12) tl hK
 have a2:=D3 (k+12) tl hO
 unfold plB at hc
 generalize(!us.isEmpty&&us.all λp=>Aj (A5 ext p))=n at hc nk
 generalize(ps.all λp=>C8 (A5 ext p))=a at hc a1
 generalize(us.all λp=>C8 (A5 ext p))=b at hc a2
 cases a
 ·exact xFo (.b 0 (.b 1 .l .l) .l) (λe=>e 0||e 1) (en:=bs [PyData.eqv (iN t) (.int 1),n]) (r:=λη=>(.d (iN t'),.cl)) (σ':=λη=>St e1 tl) [.cw f1,.cw f2,.cw a1,.g 628027039 0 rfl,.cw nk,.g 628043070 1 rfl,.cw h] (λe=>by kernel_rfl) hc
 ·exact xFo (.b 0 (.b 1 (.b 2 .l .l) .l) .l) (λe=>e 0||(e 1||e 2)) (en:=bs [b,PyData.eqv (iN t) (.int 1),n]) (r:=λη=>(.d (iN t'),.cl)) (σ':=λη=>St e1 tl) [.cw f1,.cw f2,.cw a1,.cw a2,.g 628007012 0 rfl,.g 628027039 1 rfl,.cw nk,.g 628043070 2 rfl,.cw h] (λe=>by kernel_rfl) hc
noncomputable def C10(t o:Nat):A1:=[("host",.val,.o 15),("t",.val,.d (iN t)),("other",.val,.d (iN o)),("yes",.val,.d (.bool true)),("strict",.val,.d (.bool true)),("tab",.val,.o 0),("plain",.val,.d (.bool false))]
theorem rT{os:List Nat}(hK:K ext t ps)(hO:K ext o us)(hc:plB ext t ps us=false)(c1:Ce (cx (k+18)) "narrow_equal" 632022090 (C10 t o) (St ext tl) (os.map iN) (St e1 tl))(eu:(cx (k+18)).call "union" [Ad,(.d (.list (os.map iN)),.fr)] (St e1 tl)=some ((.d (iN t'),.cl),St e2 tl)):
  (cx (k+19)).call "narrow_equal" [Ax,iV t,iV o,bT,bT] (St ext tl)=some ((.d (iN (cond (Hf [.int 0,.int 13] t||Hf [.int 0,.int 13,.int 1] o) t t')),.cl),St (cond (Hf [.int 0,.int 13] t||Hf [.int 0,.int 13,.int 1] o) ext e2) tl):=by
 have f1:=Dg (k+17) tl (ext:=ext) t
 have f2:=Dg (k+17) tl (ext:=ext) o
 have nk:=E9 (k+13) tl hO
 have a1:=D3 (k+12) tl hK
 have a2:=D3 (k+12) tl hO
 have h:=Bool.or_eq_false_iff.mp hc
 have q:=Bool.or_eq_false_iff.mp h.2
 have h1:=h.1
 rw[q.2]at nk
 generalize(ps.all λp=>C8 (A5 ext p))=a at h1 a1
 generalize(us.all λp=>C8 (A5 ext p))=b at h1 a2
 cases a
 ·exact xFt (.b 0 (.b 1 .l .l) .l) (en:=bs [Hf [.int 0,.int 13] t,Hf [.int 0,.int 13,.int 1] o]) (r:=λe=>(.d (iN (cond (e 0||e 1) t t')),.cl)) (σ':=λe=>St (cond (e 0||e 1) ext e2) tl) [.cw f1,.cw f2,.cw a1,.t 628027039 q.1,.cw nk,.g 630007022 0 rfl,.g 630026054 1 rfl,.k c1,.cw eu] λe=>by kernel_rfl
 ·obtain rfl:b=false:=h1
  exact xFt (.b 0 (.b 1 .l .l) .l) (en:=bs [Hf [.int 0,.int 13] t,Hf [.int 0,.int 13,.int 1] o]) (r:=λe=>(.d (iN (cond (e 0||e 1) t t')),.cl)) (σ':=λe=>St (cond (e 0||e 1) ext e2) tl) [.cw f1,.cw f2,.cw a1,.cw a2,.t 628027039 q.1,.cw nk,.g 630007022 0 rfl,.g 630026054 1 rfl,.k c1,.cw eu] λe=>by kernel_rfl
theorem zQ(hK:K ext t ps)(hO:K ext o us)(hc:plB ext t ps us=false)(hU:U=A9 ext us)(hS:S=A9 ext ps)(hR:R ext t S)(b:Tb ((us.length+1)*ps.length+1) ext):
  ∃t' e',(cx (k+19)).call "narrow_equal" [Ax,iV t,iV o,bT,bT] (St ext tl)=some ((.d (iN t'),.cl),St e' tl)∧Gr ((us.length+1)*ps.length+1) ext e'∧R e' t' (cond (Hf [.int 0,.int 13] t||Hf [.int 0,.int 13,.int 1] o) S (N (lift (eD U) S))):=
 C37 (w:=cx (k+18)) (c:=lc "narrow_equal" 632022090) (l:=C10 t o) (tl:=tl) (n:=us.length+1) (m:=1) (f:=eD U) (ps:=ps) (λp hp{e n} g b=>(uR (k+1) tl ((hK.parts p hp).mono g) (hO.mono g) (Ko g hO (Bool.or_eq_false_iff.mp (Bool.or_eq_false_iff.mp hc).2).2) b).imp λt'=>Exists.imp λe2 z=>⟨xT [.c z.1],z.2.1,hU.trans (Cy g hO.pts).symm▸z.2.2⟩) (Gr.refl b.wf) b λos Ss e1 fo g b1 ha hs=>
  (B2 (k+10) tl (x:=.list (os.map iN)) (kd:=.fr) rfl b1 ha).elim λt' z=>z.elim λe2 z=>by
   have r:=rT k tl hK hO hc (xK "narrow_equal" 632022090 [.c (Aa _ tl hK)] (by kernel_rfl) (by kernel_rfl) fo) z.1
   rw[hs.trans (funext (K1 hK.pts _)),← hS]at z
   cases q:Hf [.int 0,.int 13] t||Hf [.int 0,.int 13,.int 1] o<;>rw[q]at r
   ·exact⟨t',e2,r,g.trans z.2.1,z.2.2⟩
   ·exact⟨t,ext,r,(Gr.refl b.wf).le (Nat.zero_le _),hR⟩
theorem y6(h1:S 1=false)(h2:(G3 U&&Gl U Aj)=false):Dw U S=cond (S 0||(U 0||U 1)) S (N (lift (eD U) S)):=by
 unfold Dw
 rw[h1,h2]
 cases S 0<;>cases U 0||U 1<;>rfl
theorem aC(hR:R ext t S)(w:Wf ext)(h:(cx (k+19)).call "narrow_equal" [Ax,iV t,iV o,bT,bT] (St ext tl)=some ((.d (iN t),.cl),St ext tl)):∃t' ext',(cx (k+19)).call "narrow_equal" [Ax,iV t,iV o,bT,bT] (St ext tl)=some ((.d (iN t'),.cl),St ext' tl)∧Gr 160 ext ext'∧R ext' t' S:=⟨t,ext,h,(Gr.refl w).le (Nat.zero_le _),hR⟩
theorem Ni(hb:∀u∈us,u∈A0)(q:(!us.isEmpty&&us.all λp=>Aj (A5 ext p))=true):(∀u∈us,u∈D4)∧us≠[]:=
 ⟨λu hu=>(by decide +kernel:∀u∈A0,Aj u=true→u∈D4) u (hb u hu) (Aq (.base (hb u hu):Ae ext u u)▸Be (Ab q).2 u hu),λh=>by subst h;cases q⟩
theorem dB(hR:R ext t S)(hn:Nm S)(hK:K ext t ps)(hS:S=A9 ext ps)(hO:K ext o us)(hl:us.length≤2)(hb:∀u∈us,u∈A0)(i0:Hf [.int 0,.int 13] t=S 0)(i1:Hf [.int 0,.int 13,.int 1] o=(A9 ext us 0||A9 ext us 1))(hp38:ps.length≤38)(hc:plB ext t ps us=true)(b:Tb 160 ext):
  ∃t' ext',(cx (k+19)).call "narrow_equal" [Ax,iV t,iV o,bT,bT] (St ext tl)=some ((.d (iN t'),.cl),St ext' tl)∧Gr 160 ext ext'∧R ext' t' (Dw (A9 ext us) S):=by
 unfold Dw
 cases e0:S 0 with
 |true=>exact aC k tl hR b.wf (Xj k tl hK hO hc (R3 (k+7) tl (i0.trans e0)))
 |false=>
  cases eU:A9 ext us 0||A9 ext us 1 with
  |true=>exact aC k tl hR b.wf (Xj k tl hK hO hc (Zz (k+7) tl (i0.trans e0) (i1.trans eU)))
  |false=>
   have via:∀{t' ext'},(cx (k+17)).call "plain_equal_yes" [Ad,iV t,iV o,bT] (St ext tl)=some ((.d (iN t'),.cl),St ext' tl)→(cx (k+19)).call "narrow_equal" [Ax,iV t,iV o,bT,bT] (St ext tl)=some ((.d (iN t'),.cl),St ext' tl):=λe=>Xj k tl hK hO hc (zO (k+7) tl (i0.trans e0) (i1.trans eU) e)
   cases e1:S 1 with
   |true=>
    obtain rfl:t=1:=(Ib hR e0 hn).mpr e1
    exact(pM (k+5) tl hO (b.le (Nat.zero_le _))).elim λt' z=>⟨t',ext,via (r7 (k+5) tl z.1),(Gr.refl b.wf).le (Nat.zero_le _),z.2⟩
   |false=>
    have ht:t≠1:=λh=>nomatch e1.symm.trans ((Ib hR e0 hn).mp h)
    rw[← Ha hO.pts,Jn hO.pts]
    cases q2:(!us.isEmpty&&us.all λp=>Aj (A5 ext p))with
    |true=>
     exact(rL k tl hK hO ht (λp hp e=>nomatch e1.symm.trans ((congrFun hS 1).trans (Ba.mpr ⟨p,hp,e⟩))) (Ni hb q2).1 (Ni hb q2).2 hl (Ag hp38 (by decide)) (b.le (Ag (Nat.succ_le_succ (Nat.mul_le_mul_left 3 hp38)) (by decide)))).imp λt'=>Exists.imp λe z=>⟨via (iU k tl hO ht q2 z.1),z.2.1.le (Ag (Nat.succ_le_succ (Nat.mul_le_mul_left 3 hp38)) (by decide)),hS▸z.2.2⟩
    |false=>
     have h:=Ab ((Ho hc).elim id λz=>(Ho z).elim (λz=>Bool.noConfusion ((Cn (b:=1) ht).symm.trans z)) λz=>Bool.noConfusion (q2.symm.trans z))
     exact(iS (k+7) tl hK hO ht q2 (Ag hp38 (by decide)) (b.le (Ag (Nat.succ_le_succ hp38) (by decide)))).imp λt'=>Exists.imp λe z=>⟨via z.1,z.2.1.le (Ag (Nat.succ_le_succ hp38) (by decide)),by
      show R e t' (N (lift (eD (A9 ext us)) S))
      rw[← iQ (λd hd=>b8 hO.pts hd) (hS▸(Ha hK.pts _).symm.trans h.1) ((Ha hO.pts _).symm.trans h.2),hS]
      exact z.2.2⟩
theorem jF(hR:R ext t S)(hn:Nm S)(hO:K ext o us)(hl:us.length≤2)(hb:∀u∈us,u∈A0)(hnU:Nm (A9 ext us))(b:Tb 160 ext):
  ∃t' ext',(cx (k+19)).call "narrow_equal" [Ax,iV t,iV o,bT,bT] (St ext tl)=some ((.d (iN t'),.cl),St ext' tl)∧Gr 160 ext ext'∧R ext' t' (Dw (A9 ext us) S):=
 hR.ids.elim λps h=>by
  have i0:=Ri hR hn
  have i1:=dO hO.r hnU
  have hp38:=R.len b.wf h.1
  cases hc:plB ext t ps us with
  |true=>exact dB k tl hR hn h.1 h.2 hO hl hb i0 i1 hp38 hc b
  |false=>
   have q:=Bool.or_eq_false_iff.mp (Bool.or_eq_false_iff.mp hc).2
   have hc3:(us.length+1)*ps.length+1≤160:=Ag (Nat.succ_le_succ (Nat.mul_le_mul (Nat.succ_le_succ hl) hp38)) (by decide)
   have h1:S 1=false:=by
    cases e1:S 1
    ·rfl
    cases e0:S 0
    ·exact nomatch ((Ib hR e0 hn).mpr e1▸q.1)
    ·exact nomatch (Nm.top0 hn e0▸e1:one 0 1=true)
   exact(zQ k tl h.1 hO hc rfl h.2 hR (b.le hc3)).imp λt'=>Exists.imp λe z=>⟨z.1,z.2.1.le hc3,y6 h1 ((congr (congrArg _ (Jn hO.pts)) (Ha hO.pts _).symm).trans q.2)▸i0▸i1▸z.2.2⟩
end
end
section
open PySem
theorem E0{S:CS}(e0:S 0=false)(e1:S 1=false)(c:Nat):N S c=(A7 S c&&(!E4 (A7 S) (Ik c)&&!E4 (A7 S) (Hj c))):=by
 unfold N
 rw[e0,e1]
theorem B11:N (one 0)=one 0:=rfl
theorem B10:N (one 1)=one 1:=rfl
theorem Fj{A B:CS}(h:∀c,A c=true→B c=true)(x:Int)(e:E4 B x=false):E4 A x=false:=by
 cases x with
 |negSucc n=>rfl
 |ofNat c=>
  cases q:A c with
  |false=>exact q
  |true=>exact nomatch (show B c=false from e).symm.trans (h c q)
theorem B88:∀x y z w a b c d:Bool,(a=true→(x||((x||y)&&(z||w)))=true)→(b=true→y=true)→(c=true→(z||((x||y)&&(z||w)))=true)→(d=true→w=true)→((a||b)&&(c||d))=true→((x||y)&&(z||w))=true:=by decide
theorem Fw(S:CS):N (N S)=N S:=by
 cases e0:S 0 with
 |true=>
  have:N S=one 0:=by funext c;unfold N;rw[e0];rfl
  rw[this];rfl
 |false=>cases e1:S 1 with
  |true=>
   have:N S=one 1:=by funext c;unfold N;rw[e0,e1];rfl
   rw[this];rfl
  |false=>
   have hN:=E0 e0 e1
   have t0:N S 0=false:=by rw[hN];unfold A7;rw[e0];rfl
   have t1:N S 1=false:=by rw[hN];unfold A7;rw[e1];rfl
   have hle:∀c,N S c=true→A7 S c=true:=λc h=>(Ab ((hN c).symm.trans h)).1
   have hj:A7 (N S)=N S:=by
    funext c
    show(N S c||((Nat.beq 8 c||Nat.beq 9 c)&&((N S 8||N S 14)&&(N S 9||N S 15))))=N S c
    cases q:(N S 8||N S 14)&&(N S 9||N S 15)with
    |false=>rw[Bool.and_false,Bool.or_false]
    |true=>
     have key:=B88 (S 8) (S 14) (S 9) (S 15) _ _ _ _ (hle 8) (λh=>(Bool.or_false _).symm.trans (hle 14 h)) (hle 9) (λh=>(Bool.or_false _).symm.trans (hle 15 h)) q
     have k:∀x,(Nat.beq 8 x||Nat.beq 9 x)=true→N S x=true:=λx hx=>by
      rcases Ho hx with h|h<;>rw[hN,← Bu h]<;>unfold A7<;>rw[key,Bool.and_true]<;>exact congrArg (· &&_) (Bool.or_true _)
     cases q8:Nat.beq 8 c||Nat.beq 9 c with
     |true=>rw[k c q8];rfl
     |false=>exact Bool.or_false _
   funext c
   rw[E0 t0 t1,hj]
   cases q:N S c with
   |false=>rfl
   |true=>
    obtain⟨h2,h3⟩:=Ab (Ab ((hN c).symm.trans q)).2
    rw[Fj hle _ (Bool.not_eq_true' _▸h2),Fj hle _ (Bool.not_eq_true' _▸h3)]
    rfl
theorem Nm.of(S:CS):Nm (N S):=Fw S
noncomputable def Kh(ext:List PyData)(o:Nat)(U:CS):Prop:=∃us,K ext o us∧us.length≤2∧(∀u∈us,u∈A0)∧U=A9 ext us∧Nm U
theorem Kh.mono{n:Nat}{a b:List PyData}(g:Gr n a b){o:Nat}{U:CS}(h:Kh a o U):Kh b o U:=h.imp λus h=>⟨h.1.mono g,h.2.1,h.2.2.1,h.2.2.2.1.trans (Cy g h.1.pts).symm,h.2.2.2.2⟩
noncomputable def Pd:List Nat→Option Nat
 |[d]=>match Ai d with
  |true=>some d
  |false=>none
 |_=>none
noncomputable def E1(U:CS):Option Nat:=Pd ((List.range 38).filter U)
theorem N3{d:Nat}:∀{l:List Nat},Pd l=some d→Ai d=true
 |[],e=>Ao e
 |_::_::_,e=>Ao e
 |[a],e=>by
  replace e:(match Ai a with|true=>some a|false=>none)=some d:=e
  cases q:Ai a<;>rw[q]at e
  ·exact Ao e
  ·exact Cd e▸q
noncomputable def Jx(U S:CS):CS:=match E1 U with
 |some d=>jA d S
 |none=>S
theorem cZ{ext:List PyData}{o:Nat}{us:List Nat}(hK:K ext o us)(hb:∀u∈us,u∈A0):(List.range 38).filter (A9 ext us)=us:=by
 refine F3 (List.pairwise_lt_range.sublist List.filter_sublist) hK.sorted λx=>?_
 rw[List.mem_filter,List.mem_range,Ba]
 constructor
 ·rintro⟨_,p,hp,rfl⟩
  exact(Aq (.base (hb p hp))).symm▸hp
 ·exactλhx=>⟨Nat.lt_of_lt_of_le (B8 (hb x hx)) (by decide),x,hx,Aq (.base (hb x hx))⟩
theorem fW{d:Nat}(hd:d=4∨d=5):Nm (Fq d):=by
 funext c
 have h01:Fq d 0=false∧Fq d 1=false∧(Fq d 8||Fq d 14)=false:=by rcases hd with rfl|rfl<;>exact⟨rfl,rfl,rfl⟩
 rw[E0 h01.1 h01.2.1]
 cases q:Fq d c with
 |false=>
  rw[A7]
  rw[q,h01.2.2,Bool.false_and,Bool.and_false]
  rfl
 |true=>
  rcases Ho q with h|h
  ·have h:=Bu h
   rcases hd with rfl|rfl<;>subst h<;>rfl
  ·have h:=Bu ((Bool.or_false _).symm.trans h)
   rcases hd with rfl|rfl<;>subst h<;>rfl
theorem A13{d:Nat}(hd:Ai d=true){S:CS}(hn:Nm S):Nm (Kw d S):=by
 unfold Kw
 cases S 0 with
 |true=>exact hn
 |false=>cases e:S 1&&Aj d with
  |false=>exact Fw _
  |true=>exact fW ((by decide +kernel:∀d∈A0,Ai d=true→Aj d=true→d=4∨d=5) d (C4 hd) hd (Ab e).2)
theorem R5{U S:CS}(hn:Nm S):Nm (Jx U S):=by
 unfold Jx
 cases e:E1 U with
 |none=>exact hn
 |some d=>
  show Nm (jA d S)
  unfold jA
  cases Aj d with
  |true=>exact Fw _
  |false=>exact A13 (N3 e) hn
theorem pK{d:Nat}(hb:d∈A0)(q:Ai d=false):Lr d=T []:=Ay (by kernel_rfl:(A0.filter λd=>!Ai d).map Lr=(A0.filter λd=>!Ai d).map λη=>T []) (oR ⟨hb,congrArg not q⟩)
section
variable(k:Nat){ext:List PyData}(tl:Sg){t o:Nat}{S U:CS}
theorem Nk{us:List Nat}(hR:R ext t S)(hn:Nm S)(hK:K ext o us)(w:Wf ext)(h1:pvU (us.map (A5 ext))=T []):∃t' ext',(cx (k+18)).call "narrow_equal" [Ax,iV t,iV o,bF,bT] (St ext tl)=some ((.d (iN t'),.cl),St ext' tl)∧Gr 160 ext ext'∧R ext' t' S:=⟨t,ext,zT k tl hR hn hK h1,(Gr.refl w).le (Nat.zero_le _),hR⟩
theorem zR{us:List Nat}(hR:R ext t S)(hn:Nm S)(hK:K ext o us)(hb:∀u∈us,u∈A0)(b:Tb 160 ext):
  ∃t' ext',(cx (k+18)).call "narrow_equal" [Ax,iV t,iV o,bF,bT] (St ext tl)=some ((.d (iN t'),.cl),St ext' tl)∧Gr 160 ext ext'∧R ext' t' (match Pd us with|some d=>jA d S|none=>S):=by
 obtain _|⟨d,_|⟨e,r⟩⟩:=us
 ·exact Nk k tl hR hn hK b.wf rfl
 ·have e:Pd [d]=match Ai d with|true=>some d|false=>none:=rfl
  rw[e]
  cases q:Ai d with
  |true=>
   obtain rfl:=y2 hK
   exact jG k tl hR hn q b
  |false=>exact Nk k tl hR hn hK b.wf ((congrArg Lr (Aq (.base (hb d (.head _)):Ae ext d d))).trans (pK (hb d (.head _)) q))
 ·exact Nk k tl hR hn hK b.wf rfl
theorem jH(hR:R ext t S)(hn:Nm S)(hT:Kh ext o U)(b:Tb 160 ext):
  ∃t' ext',(cx (k+18)).call "narrow_equal" [Ax,iV t,iV o,bF,bT] (St ext tl)=some ((.d (iN t'),.cl),St ext' tl)∧Gr 160 ext ext'∧R ext' t' (Jx U S):=
 hT.elim λus h=>by
  have z:=zR k tl hR hn h.1 h.2.2.1 b
  unfold Jx E1
  rw[h.2.2.2.1,cZ h.1 h.2.2.1]
  exact z
end
end
section
open PySem
noncomputable def Ft(Us:List CS)(S:CS):CS:=Us.foldl (λS U=>Jx U S) S
noncomputable def Bb(Us:List CS)(S:CS):CS:=match S 3 with
 |true=>N (B5 [Ft Us S,one 3])
 |false=>Ft Us S
theorem Og:∀{Us:List CS}{S:CS},Nm S→Nm (Ft Us S)
 |[],_,h=>h
 |U::Us,S,h=>Og (Us:=Us) (R5 (U:=U) h)
theorem G1{Us:List CS}{S:CS}(h:Nm S):Nm (Bb Us S):=by
 unfold Bb
 cases S 3 with
 |true=>exact Fw _
 |false=>exact Og h
noncomputable def Du(k:Kd):SK:=match k with
 |.al _=>.bor
 |_=>.val
noncomputable def A60(t:Nat)(x:PyData)(sk:SK)(vd:List PyData):A1:=[("host",.val,.o 15),("t",.val,.d (iN t)),("kinds",sk,.d x),("tab",.val,.o 0),("void",.val,.d (.tuple vd))]
noncomputable def Oh{α:Type}:List α→Nat→Nat
 |[],m=>m
 |_::l,m=>Oh l m+1
noncomputable def Ge(a b:List PyData):Prop:=∃n,Gr n a b
noncomputable def Tq(m:Nat)(a:List PyData):Prop:=Tb (1000*m) a
theorem Gr.ge{n:Nat}{a b:List PyData}(g:Gr n a b):Ge a b:=⟨n,g⟩
theorem Ge.trans{a b c:List PyData}(g:Ge a b)(h:Ge b c):Ge a c:=g.elim λη g=>h.elim λη h=>⟨_,g.trans h⟩
theorem Tq.gr{m n:Nat}{a b:List PyData}(h:Tq (m+1) a)(g:Gr n a b)(hn:n≤1000):Tq m b:=Tb.gr (n:=1000) (m:=1000*m) (Nat.add_comm 1000 _▸h) (g.le hn)
theorem Tq.b{m n:Nat}{a:List PyData}(h:Tq (m+1) a)(hn:n≤1000):Tb n a:=h.le (Ag hn (Nat.le_add_left _ _))
theorem Tq.le{m n:Nat}{a:List PyData}(h:Tq m a)(hn:n≤m):Tq n a:=Tb.le h (Nat.mul_le_mul_left _ hn)
noncomputable def Sk(m:Nat)(tl:Sg)(ext:List PyData)(S:CS)(o:Option (RV×Sg)):Prop:=∃t ext',o=some ((.d (iN t),.cl),St ext' tl)∧Ge ext ext'∧Tq m ext'∧R ext' t S
theorem Sk.of{n m:Nat}{tl:Sg}{ext:List PyData}{S:CS}{o:Option (RV×Sg)}(h:∃t ext',o=some ((.d (iN t),.cl),St ext' tl)∧Gr n ext ext'∧R ext' t S)(b:Tq (m+1) ext)(hn:n≤1000):Sk m tl ext S o:=h.elim λt h=>h.elim λe h=>⟨t,e,h.1,h.2.1.ge,b.gr h.2.1 hn,h.2.2⟩
theorem Sk.el{m:Nat}{tl:Sg}{ext:List PyData}{S:CS}{o:Option (RV×Sg)}{C:Prop}(h:Sk m tl ext S o)(z:∀t ext',o=some ((.d (iN t),.cl),St ext' tl)→Ge ext ext'→Tq m ext'→R ext' t S→C):C:=h.elim λt h=>h.elim λe h=>z t e h.1 h.2.1 h.2.2.1 h.2.2.2
section
variable(k m:Nat){tl:Sg}{α:Type}{tid:α→Nat}{U:α→CS}{ms:List α}{i:α→PyData}{w:Wc}{C:Prop}
theorem Kh.ge{a b:List PyData}(g:Ge a b){o:Nat}{U:CS}(h:Kh a o U):Kh b o U:=g.elim λη g=>h.mono g
theorem R.ge{a b:List PyData}(g:Ge a b){o:Nat}{U:CS}(h:R a o U):R b o U:=g.elim λη g=>h.mono g
theorem Pu{st:Stmt}{sc:Scope}{fr:Nat→A1}(turn:∀{a t t2 e e2},(cx (k+18)).call "narrow_equal" [Ax,iV t,iV (tid a),bF,bT] (St e tl)=some ((.d (iN t2),.cl),St e2 tl)→Bd w st sc (i a) (fr t) (St e tl) .nx (fr t2) (St e2 tl)):∀{e:List PyData}{t:Nat}{S:CS},R e t S→Nm S→(∀a∈ms,Kh e (tid a) (U a))→Tq (Oh ms m) e→
  (∀t' e',Lp w st sc (ms.map i) (fr t) (St e tl) .nx (fr t') (St e' tl)→Ge e e'→Tq m e'→R e' t' (Ft (ms.map U) S)→C)→C:=by
 induction ms with
 |nil=>exactλhR η η b z=>z _ _ (.nil .refl) (Gr.refl (Tb.wf b)).ge b hR
 |cons a ms ih=>exactλhR hn hT b z=>(Sk.of (jH k tl hR hn (hT a (.head _)) (b.b (by decide))) b (by decide)).el λt2 e2 h g b2 h2=>ih h2 (R5 hn) (λa ha=>(hT a (.tail _ ha)).ge g) b2 λt' e' lp g' b' h'=>z t' e' (.go (turn h) lp) (g.trans g') b' h'
variable{s:Nat}{Z:CS}
theorem fI{e:List PyData}{t:Nat}{U:CS}(hR:R e s Z)(hn:Nm Z)(h:Kh e t U)(b:Tq (m+1) e):Sk m tl e (Dw U Z) ((cx (k+19)).call "narrow_equal" [Ax,iV s,iV t,bT,bT] (St e tl)):=
 have⟨_,hK,hl,hb,hu,hN⟩:=h
 .of (hu▸jF k tl hR hn hK hl hb (hu▸hN) (b.b (by decide))) b (by decide)
theorem A29{c:Expr}{l:A1}(turn:∀{a u e e2},(cx (k+19)).call "narrow_equal" [Ax,iV s,iV (tid a),bT,bT] (St e tl)=some ((.d (iN u),.cl),St e2 tl)→Tn w c l (i a) (St e tl) (some (iN u)) (St e2 tl)):∀{e:List PyData},R e s Z→Nm Z→(∀a∈ms,Kh e (tid a) (U a))→Tq (Oh ms m) e→
  (∀os e',Fo w c l (ms.map i) (St e tl) (os.map iN) (St e' tl)→Ge e e'→Tq m e'→A6 (R e') os (ms.map λa=>Dw (U a) Z)→os.length=ms.length→C)→C:=by
 induction ms generalizing C with
 |nil=>exactλη η η b z=>z [] _ .nil (Gr.refl (Tb.wf b)).ge b .nil rfl
 |cons a ms ih=>exactλhR hn hT b z=>(fI k _ hR hn (hT a (.head _)) b).el λu e2 h g b2 h2=>ih (hR.ge g) hn (λa ha=>(hT a (.tail _ ha)).ge g) b2 λos e' fo g' b' h' hl=>z (u::os) e' (.cons (turn h) fo) (g.trans g') b' (.cons (h2.ge g') h') (congrArg Nat.succ hl)
end
section
variable(k m:Nat){tl:Sg}{α:Type}{tid:α→Nat}{U:α→CS}{ms hs:List α}{ext:List PyData}{t:Nat}{S:CS}
theorem lE{ext:List PyData}{t:Nat}{ps:List Nat}(hK:K ext t ps)(σ:Sg):Cp .In (.d (.int 3)) (.d (.tuple (ps.map iN))) σ=some (A9 ext ps 3):=by
 show(match Dv (.int 3)&&(ps.map iN).all Dv with|true=>some ((ps.map iN).any λy=>PyData.eqv y (.int 3))|false=>none)=_
 rw[List.all_map,show ps.all (Dv∘iN)=true from List.all_eq_true.mpr λη η=>rfl,Zy,List.any_map]
 refine congrArg some (Bw λp hp=>(Jr (n:=3) (hK.parts p hp) (by decide)).trans ?_)
 exact Bool.eq_iff_iff.mpr ⟨λe=>Bu e▸Nat.beq_refl 3,λe=>Bu e▸Nat.beq_refl 3⟩
theorem Jk{x:PyData}{kd:Kd}(hx:Cx x=some (ms.map λa=>iN (tid a)))(hR:R ext t S)(hn:Nm S)(hT:∀a∈ms,Kh ext (tid a) (U a))(b:Tq (Oh ms (m+1)) ext):
  Sk m tl ext (Bb (ms.map U) S) ((cx (k+19)).call "narrow_unhit" [Ax,iV t,(.d x,kd)] (St ext tl)):=by
 obtain⟨ps,hK,hS⟩:=hR.ids
 have i3:=lE hK (St ext tl)
 rw[← hS]at i3
 have f1:=Dg (k+17) tl (ext:=ext) t
 refine Pu k (m+1) (tl:=tl) (tid:=tid) (i:=λa=>iN (tid a)) (fr:=λt=>A60 t x (Du kd) (cond (S 3) [.int 3] [])) (w:=cx (k+18)) (st:=Eb "narrow_unhit" 637) (sc:=Cg "narrow_unhit") (λ{a t t2 e e2} h=>.sub (Je (l':=A60 t2 x (Du kd) (cond (S 3) [.int 3] [])++([("kind",.val,.d (iN (tid a)))]:A1)) [.c h] (by kernel_rfl)) .refl (.app rfl)) hR hn hT b λt1 e1 h g b' hR'=>?_
 have lp:=P3 (l:=A60 t x (Du kd) (cond (S 3) [.int 3] [])) (σ:=St ext tl) (x:=x) [] (by kernel_rfl) (by kernel_rfl) (by cases kd<;>kernel_rfl) hx h
 unfold Bb
 cases q3:S 3<;>rw[q3]at i3 lp
 ·exact⟨t1,e1,xF [.c f1,.c (Aa _ tl hK),.b 636022046 i3,.s 637 lp],g,b'.le (Nat.le_succ _),hR'⟩
 ·exact(Sk.of (B2 (k+10) tl (ts:=[t1,3]) (Ss:=[Ft (ms.map U) S,one 3]) (x:=.tuple [iN t1,.int 3]) (kd:=.cl) rfl (b'.b (by decide)) (.cons hR' (.cons (Ae.r (.base (by decide))) .nil))) b' (by decide)).el λt2 e2 e g2 b2 hR2=>⟨t2,e2,xF [.c f1,.c (Aa _ tl hK),.b 636022046 i3,.s 637 lp,.c e],g.trans g2,b2,hR2⟩
noncomputable def Gv(d:Bool)(Us Hs:List CS)(S:CS):CS:=match d with
 |true=>N (B5 (Hs.map (λU=>Dw U S)++[Bb Us S]))
 |false=>N (B5 (Hs.map λU=>Dw U (Bb Us S)))
noncomputable def C09(t:Nat)(xb xh:PyData)(sb sh:SK)(d:Bool)(r s:Nat):A1:=[("host",.val,.o 15),("t",.val,.d (iN t)),("before",sb,.d xb),("hit",sh,.d xh),("default_in",.val,.d (.bool d)),("rest",.val,.d (iN r)),("start",.val,.d (iN s))]
theorem Fg{xb xh:PyData}{kb kh:Kd}(hxb:Cx xb=some (ms.map λa=>iN (tid a)))(hxh:Cx xh=some (hs.map λa=>iN (tid a)))(hR:R ext t S)(hn:Nm S)(hT:∀a∈ms,Kh ext (tid a) (U a))(hH:∀a∈hs,Kh ext (tid a) (U a))(hlen:hs.length≤4000)(d:Bool)
  (b:Tq (Oh ms (Oh hs (m+1)+1)) ext):Sk m tl ext (Gv d (ms.map U) (hs.map U) S) ((cx (k+20)).call "narrow_switch" [Ax,iV t,(.d xb,kb),(.d xh,kh),(.d (.bool d),.cl)] (St ext tl)):=by
 have un:Sk (Oh hs (m+1)) tl ext (Bb (ms.map U) S) ((cx (k+19)).call "narrow_unhit" [Ax,iV t,Xq "before" (Du kb,.d xb)] (St ext tl)):=by
  cases kb<;>exact Jk k _ hxb hR hn hT b
 refine un.el λr e1 e1' g1 b1 hR1=>?_
 have hits:∀{s:Nat}{Z:CS}{C:Prop},R e1 s Z→Nm Z→(∀os e2,Ce (cx (k+19)) "narrow_switch" 643010071 (C09 t xb xh (Du kb) (Du kh) d r s) (St e1 tl) (os.map iN) (St e2 tl)→Ge e1 e2→Tq (m+1) e2→A6 (R e2) os (hs.map λa=>Dw (U a) Z)→os.length=hs.length→C)→C:=λ{s Z C} hZ hn z=>
  A29 k _ (w:=cx (k+19)) (c:=lc "narrow_switch" 643010071) (l:=C09 t xb xh (Du kb) (Du kh) d r s) (i:=λa=>iN (tid a)) (λh=>xT [.c h]) hZ hn (λa ha=>(hH a ha).ge g1) b1 λos e2 fo=>z os e2 (xK "narrow_switch" 643010071 [.l 643067070 hxh] (by kernel_rfl) (by cases kh<;>kernel_rfl) fo)
 cases d
 ·refine hits hR1 (G1 hn) λos e2 c1 g2 b2 ha η=>(Sk.of (B2 (k+11) tl (x:=.list (os.map iN)) (kd:=.al "out") rfl (b2.b (by decide)) ha) b2 (by decide)).el λt2 e3 e g3 b3 hR3=>⟨t2,e3,xF [.c e1',.k c1,.c e],(g1.trans g2).trans g3,b3,?_⟩
  show R e3 t2 (N (B5 ((hs.map U).map λV=>Dw V (Bb (ms.map U) S))))
  rw[List.map_map]
  exact hR3
 ·refine hits (hR.ge g1) hn λos e2 c1 g2 b2 ha hl=>?_
  have ow:=E8 (x:=r) (hl▸hlen)
  refine(Sk.of (B2 (k+11) tl (x:=.list ((os++[r]).map iN)) (kd:=.al "out") rfl (b2.b (by decide)) (ha.append (.cons (hR1.ge g2) .nil))) b2 (by decide)).el λt2 e3 e g3 b3 hR3=>⟨t2,e3,xF [.c e1',.k c1,.v 645008024 ow,.c e],(g1.trans g2).trans g3,b3,?_⟩
  show R e3 t2 (N (B5 ((hs.map U).map (λV=>Dw V S)++[Bb (ms.map U) S])))
  rw[List.map_map]
  exact hR3
end
end
section
open PySem
noncomputable def C24:List (Str×Nat×Nat×List Nat):=[("undefined",4,4,[0]),("null",5,5,[1]),("false",8,14,[2]),("true",9,15,[3]),("a",16,22,[4]),("b",18,23,[5]),("0",24,25,[6]),("1",26,27,[7]),("E.A",28,29,[6]),("E.C",30,31,[7]),("F.D",32,33,[7]),("void",3,3,[0]),
 ("string",6,6,[4,5]),("number",7,7,[6,7,8]),("k:a",17,17,[9,11]),("k:b",19,19,[10,12]),("p",20,20,[11,12,13]),("object",10,10,[9,10,11,12,13]),("{}",11,11,[2,3,4,5,6,7,8,9,10,11,12,13]),("T",21,21,[0,1,2,3,4,5,6,7,8,9,10,11,12,13]),
 ("unknown",1,1,[0,1,2,3,4,5,6,7,8,9,10,11,12,13]),("any",0,0,[0,1,2,3,4,5,6,7,8,9,10,11,12,13]),("never",2,2,[])]
noncomputable def Se(x:Nat):Str×Nat×Nat×List Nat:=C24.getD x ("",0,0,[])
noncomputable def nmS(x:Nat):Str:=(Se x).1
noncomputable def C6(x:Nat):PyData:=.str (nmS x)
noncomputable def Ff(tw:Bool)(x:Nat):Nat:=match tw with
 |true=>(Se x).2.2.1
 |false=>(Se x).2.1
noncomputable def hv(x:Nat):List Nat:=(Se x).2.2.2
noncomputable def F2(l:List Nat):PyData:=.tuple (l.map iN)
noncomputable def Sd:PyData:=.dict ((List.range 23).map λx=>(C6 x,.tuple [iN (Ff false x),iN (Ff true x),F2 (hv x)]))
noncomputable def Le:List Nat:=[4,5,8,14,9,15,16,22,18,23,24,25,26,27,28,29,30,31,32,33,3,6,7,17,19,20,10,11,21,1,0,2]
noncomputable def hC(c:Nat):List Nat:=[hv 21,hv 21,[],[0],[0],[1],[4,5],[6,7,8],[2],[3],hv 17,hv 18,[],[],[2],[3],[4],[9,11],[5],[10,12],[11,12,13],hv 21,[4],[5],[6],[6],[7],[7],[6],[6],[7],[7],[7],[7],hv 18,[1],[0],[0]].getD c []
noncomputable def c7:PyData:=.dict (Le.map λc=>(iN c,F2 (hC c)))
noncomputable def A8(nums:List Nat)(n:Nat):Sg:=[.tab [(.str "nums",.d (.list (nums.map iN))),(.str "next",.d (iN n)),(.str "tab",.o 0),(.str "host",.o 15),(.str "atoms",.d Sd),(.str "book",.d c7)]]
noncomputable abbrev wV:RV:=(.o 16,.cl)
theorem mM(a b:Nat):Int.fmod (Int.ofNat a) (Int.ofNat b)=Int.ofNat (a%b):=Int.fmod_eq_emod_of_nonneg _ (Int.natCast_nonneg b)
theorem mO(a b:Nat):Int.fdiv (Int.ofNat a) (Int.ofNat b)=Int.ofNat (a/b):=Int.fdiv_eq_ediv_of_nonneg _ (Int.natCast_nonneg b)
theorem kQ{a b:Nat}(h:0<b):Ny .Mod (.d (iN a)) (.d (iN b))=some (.d (iN (a%b)),.cl):=by
 show o1 (iB (decide (0<Int.ofNat b)) (some (Int.fmod (Int.ofNat a) (Int.ofNat b)))) _=_
 rw[decide_eq_true (p:=(0:Int) <Int.ofNat b) (Int.ofNat_lt.mpr h),mM];rfl
theorem wZ{a b:Nat}(h:0<b)(h2:b<1000000):Ny .FloorDiv (.d (iN a)) (.d (iN b))=some (.d (iN (a/b)),.cl):=by
 show o1 (iB (decide ((0:Int) <Int.ofNat b∧Int.ofNat b<1073741824)) (some (Int.fdiv (Int.ofNat a) (Int.ofNat b)))) _=_
 rw[decide_eq_true (p:=(0:Int) <Int.ofNat b∧Int.ofNat b<1073741824) (⟨Int.ofNat_lt.mpr h,Int.ofNat_lt.mpr (Nat.lt_trans h2 (by decide))⟩),mO];rfl
theorem B83{a b:Nat}(h:a<1000000)(h2:b<10000000):Ny .Mult (.d (iN a)) (.d (iN b))=some (.d (iN (a*b)),.cl):=by
 show o1 (iB (decide ((Int.ofNat a).natAbs<2^40∧(Int.ofNat b).natAbs<2^40)) (some (Int.ofNat a*Int.ofNat b))) _=_
 rw[decide_eq_true (⟨Nat.lt_trans h (by decide),Nat.lt_trans h2 (by decide)⟩:(Int.ofNat a).natAbs<2^40∧(Int.ofNat b).natAbs<2^40)];rfl
theorem Zw{i n:Nat}(h:i<n):wL (Int.ofNat i) n=some i:=by
 unfold wL
 rw[decide_eq_true (p:=(0:Int)≤Int.ofNat i) (Int.natCast_nonneg i)]
 rw[decide_eq_true (p:=Int.ofNat i<(n:Int)) (Int.ofNat_lt.mpr h)];rfl
theorem A15{l:List Nat}{i v:Nat}{σ:Sg}(h:l[i]?=some v):Hg (.d (.list (l.map iN))) (.d (iN i)) σ=some (.d (iN v),.cl):=by
 have hl:i<(l.map iN).length:=by rw[List.length_map];exact(dU h).1
 show o1 (o1 (o1 (wL (Int.ofNat i) (l.map iN).length) λj=>(l.map iN)[j]?) _) _=_
 rw[Zw hl]
 show o1 (o1 (l.map iN)[i]? _) _=_
 rw[List.getElem?_map,h];rfl
theorem Nv{m:Nat}(h:m≤4000):H6 (.d (iN m))=some ((List.range m).map iN):=by
 show iB (decide ((-4096:Int)≤Int.ofNat m∧Int.ofNat m≤4096)) (some (rng (Int.ofNat m)))=_
 rw[decide_eq_true (p:=(-4096:Int)≤Int.ofNat m∧Int.ofNat m≤4096) (⟨Int.le_trans (by decide) (Int.natCast_nonneg m),Int.ofNat_le.mpr (Ag h (by decide))⟩)]
 rfl
section
variable(k:Nat){ext:List PyData}{nums:List Nat}
theorem B3{n N:Nat}{NI:Int}(hI:NI=Int.ofNat N)(hn:0<nums.length)(hn2:nums.length<1000)(h:n<1000000)(hN:0<N):∃r,r<N∧(cx (k+1)).call "_law_take" [wV,(.d (.int NI),.cl)] (St ext (A8 nums n))=some ((.d (iN r),.cl),St ext (A8 nums (n+1))):=by
 subst hI
 have hl:(nums.map iN).length=nums.length:=List.length_map ..
 have hn':0<(nums.map iN).length:=hl.symm▸hn
 obtain⟨v,hv⟩:∃v,nums[n%(nums.map iN).length]?=some v:=⟨_,List.getElem?_eq_getElem (Nat.lt_of_lt_of_eq (Nat.mod_lt _ hn') hl)⟩
 have a1:=kQ (a:=n) hn'
 have a2:=A15 (σ:=St ext (A8 nums (n+1))) hv
 have a3:=wZ (a:=n) hn' (hl.symm▸Nat.lt_trans hn2 (by decide))
 have a4:=B83 (a:=11) (b:=n/(nums.map iN).length) (by decide) (Nat.lt_of_le_of_lt (Nat.div_le_self _ _) (Nat.lt_trans h (by decide)))
 have a5:=kQ (a:=v+11*(n/(nums.map iN).length)) hN
 refine⟨(v+11*(n/(nums.map iN).length))%N,Nat.mod_lt _ hN,?_⟩
 exact xF [.v 748022031 a1,.v 748012032 a2,.v 748041051 a3,.v 748035052 a4,.v 748011057 a5]
end
end
section
open PySem
noncomputable def Kg(tw:Bool)(x:Nat):CS:=match Nat.beq x 22 with
 |true=>Eo
 |false=>one (Ff tw x)
noncomputable def ltS(a:Nat)(b:Int):Bool:=match b with
 |.ofNat n=>Nat.beq a n
 |_=>false
noncomputable def U0(a b:Nat):List Nat:=
 match Nat.beq a 0||Nat.beq b 0 with
 |true=>[0]
 |false=>match Nat.beq a 1||Nat.beq b 1 with
  |true=>[1]
  |false=>match((Nat.beq a 8||Nat.beq a 14)&&(Nat.beq b 9||Nat.beq b 15))||((Nat.beq b 8||Nat.beq b 14)&&(Nat.beq a 9||Nat.beq a 15))with
   |true=>[8,9]
   |false=>match Nat.beq a b||ltS b (Ik a)||ltS b (Hj a)with
    |true=>[b]
    |false=>match ltS a (Ik b)||ltS a (Hj b)with
     |true=>[a]
     |false=>match Nat.ble a b with
      |true=>[a,b]
      |false=>[b,a]
noncomputable def rQ(a b:Nat):List Nat:=[a,b,8,9,0,1]
theorem j2:(A0.all λa=>A0.all λb=>(rQ a b).all λc=>N (λd=>Nat.beq a d||Nat.beq b d) c==(U0 a b).any λd=>Nat.beq d c)=true:=by decide +kernel
theorem d8:(A0.all λa=>A0.all λb=>(U0 a b).all λc=>A0.contains c&&(rQ a b).contains c)=true:=by decide +kernel
theorem D08{S:CS}{c:Nat}(h:N S c=true):c=0∨c=1∨c=8∨c=9∨S c=true:=by
 unfold N at h
 cases e0:S 0<;>rw[e0]at h
 ·cases e1:S 1<;>rw[e1]at h
  ·rcases Ho (Ab h).1 with h|h
   ·exact .inr (.inr (.inr (.inr h)))
   ·rcases Ho (Ab h).1 with h|h
    ·exact .inr (.inr (.inl (Bu h).symm))
    ·exact .inr (.inr (.inr (.inl (Bu h).symm)))
  ·exact .inr (.inl (Bu h).symm)
 ·exact .inl (Bu h).symm
theorem B12{a b c:Nat}(h:N (λd=>Nat.beq a d||Nat.beq b d) c=true):c∈rQ a b:=by
 have z:(rQ a b).contains c=true:=by
  show(c==a||(c==b||(c==8||(c==9||(c==0||(c==1||false))))))=true
  rcases D08 h with rfl|rfl|rfl|rfl|h
  ·cases 0==a<;>cases 0==b<;>rfl
  ·cases 1==a<;>cases 1==b<;>rfl
  ·cases 8==a<;>cases 8==b<;>rfl
  ·cases 9==a<;>cases 9==b<;>rfl
  ·rcases Ho h with h|h
   ·rw[Bu h,beq_self_eq_true,Bool.true_or]
   ·rw[Bu h,beq_self_eq_true,Bool.true_or,Bool.or_true]
 exact List.contains_iff_mem.mp z
noncomputable def lS(us:List Nat):CS:=λc=>us.any λd=>Nat.beq d c
theorem Nr{l:List Nat}{x:Nat}:lS l x=true↔x∈l:=by
 unfold lS
 rw[List.any_eq_true]
 exact⟨λ⟨d,hd,q⟩=>Bu q▸hd,λh=>⟨x,h,Nat.beq_refl x⟩⟩
theorem Tz{a b:Nat}(ha:a∈A0)(hb:b∈A0):N (λd=>Nat.beq a d||Nat.beq b d)=lS (U0 a b):=by
 have k:=λc hc=>eq_of_beq (Be (Be (Be j2 a ha) b hb) c hc)
 refine funext λc=>Bool.eq_iff_iff.mpr ⟨λh=>(k c (B12 h)).symm.trans h,λh=>(k c ?_).trans h⟩
 exact List.contains_iff_mem.mp (Ab (Be (Be (Be d8 a ha) b hb) c (Nr.mp h))).2
noncomputable def Jf(tw:Bool):List Nat→List Nat
 |[x]=>U0 (Ff tw x) (Ff tw x)
 |[x,y]=>U0 (Ff tw x) (Ff tw y)
 |_=>[]
theorem Cb{tw:Bool}{x:Nat}(h:x<22):Ff tw x∈A0:=(by decide +kernel:∀x<22,∀tw,Ff tw x∈A0) x h tw
theorem Sf{tw:Bool}{x:Nat}(h:x<22):Kg tw x=one (Ff tw x):=by
 unfold Kg
 cases q:Nat.beq x 22 with
 |false=>rfl
 |true=>exact absurd (Bu q) (Nat.ne_of_lt h)
theorem D05{ext:List PyData}{tw:Bool}{x:Nat}(h:x<23):R ext (Ff tw x) (Kg tw x):=by
 rcases Nat.lt_or_eq_of_le (Nat.le_of_lt_succ h)with h|rfl
 ·rw[Sf h]
  exact Ae.r (.base (Cb h))
 ·cases tw<;>exact⟨[],.never,λη=>rfl⟩
theorem o0{ext:List PyData}{tw:Bool}:∀{ns:List Nat},(∀x∈ns,x<23)→A6 (R ext) (ns.map (Ff tw)) (ns.map (Kg tw))
 |[],_=>.nil
 |x::ns,h=>.cons (D05 (h x (.head _))) (o0 λy hy=>h y (.tail _ hy))
theorem fR{tw:Bool}{xs:List Nat}(h:∀x∈xs,x<22)(hl:xs.length≤2):N (B5 (xs.map (Kg tw)))=lS (Jf tw xs):=by
 obtain _|⟨x,_|⟨y,_|⟨z,zs⟩⟩⟩:=xs
 ·refine funext λc=>?_
  show((false||((Nat.beq 8 c||Nat.beq 9 c)&&false))&&_)=false
  rw[Bool.and_false]
  rfl
 ·have hx:=h x (.head _)
  have e:B5 ([x].map (Kg tw))=λd=>Nat.beq (Ff tw x) d||Nat.beq (Ff tw x) d:=by
   funext d
   show(Kg tw x d||false)=_
   rw[Sf hx,Bool.or_false,Bool.or_self];rfl
  rw[e]
  exact Tz (Cb hx) (Cb hx)
 ·have hx:=h x (.head _)
  have hy:=h y (.tail _ (.head _))
  have e:B5 ([x,y].map (Kg tw))=λd=>Nat.beq (Ff tw x) d||Nat.beq (Ff tw y) d:=by
   funext d
   show(Kg tw x d||(Kg tw y d||false))=_
   rw[Sf hx,Sf hy,Bool.or_false];rfl
  rw[e]
  exact Tz (Cb hx) (Cb hy)
 ·exact absurd hl (by rw[List.length_cons,List.length_cons,List.length_cons];omega)
theorem pG:((List.range 22).all λx=>[true,false].all λtw=>decide ((Jf tw [x]).length≤2∧(Jf tw [x]).Pairwise (· <·)∧∀u∈Jf tw [x],u∈A0)&&(List.range 22).all λy=>decide ((Jf tw [x,y]).length≤2∧(Jf tw [x,y]).Pairwise (· <·)∧∀u∈Jf tw [x,y],u∈A0))=true:=by decide +kernel
theorem Fx{tw:Bool}{xs:List Nat}(h:∀x∈xs,x<22)(hl:xs.length≤2):(Jf tw xs).length≤2∧(Jf tw xs).Pairwise (· <·)∧∀u∈Jf tw xs,u∈A0:=by
 have htw:tw∈[true,false]:=by cases tw<;>decide
 obtain _|⟨x,xs⟩:=xs
 ·exact⟨Nat.zero_le _,.nil,λu hu=>absurd hu List.not_mem_nil⟩
 have g:=Ab (Be (Be pG x (En (h x (.head _)))) tw htw)
 obtain _|⟨y,_|⟨z,zs⟩⟩:=xs
 ·exact of_decide_eq_true g.1
 ·exact of_decide_eq_true (Be g.2 y (En (h y (.tail _ (.head _)))))
 ·exact absurd hl (by rw[List.length_cons,List.length_cons,List.length_cons];omega)
theorem J3{ext:List PyData}{us:List Nat}(h:∀u∈us,u∈A0):A9 ext us=lS us:=
 funext λc=>Bw λu hu=>by rw[Aq (.base (h u hu))]
theorem yI{ext:List PyData}{o:Nat}{tw:Bool}{xs:List Nat}(h:∀x∈xs,x<22)(hl:xs.length≤2)(hR:R ext o (N (B5 (xs.map (Kg tw))))):K ext o (Jf tw xs)∧Kh ext o (lS (Jf tw xs)):=by
 obtain⟨f1,f2,f3⟩:=Fx (tw:=tw) h hl
 have hset:=fR (tw:=tw) h hl
 rw[hset]at hR
 obtain⟨us,hK,e⟩:=hR.ids
 have hb:∀u∈us,u∈A0:=λu hu=>by
  obtain⟨c,hc⟩:=hK.pts u hu
  have hd:=f3 c (Nr.mp ((congrFun e c).trans (Ba.mpr ⟨u,hu,Aq hc⟩)))
  exact(F9 hc (B8 hd))▸hd
 have hus:us=Jf tw xs:=F3 hK.sorted f2 λx=>by
  have:=congrFun e x
  rw[J3 hb]at this
  rw[← Nr,← Nr (l:=Jf tw xs),this]
 subst hus
 exact⟨hK,_,hK,f1,f3,(J3 f3).symm,by rw[← hset];exact Fw _⟩
noncomputable def atT(x:Nat):List PyData:=[iN (Ff false x),iN (Ff true x),F2 (hv x)]
theorem Ii{x:Nat}{σ:Sg}(h:x<23):Hg (.d Sd) (.d (C6 x)) σ=some (.d (.tuple (atT x)),.cl):=
 Ay (by kernel_rfl:(List.range 23).map (λx=>Hg (.d Sd) (.d (C6 x)) σ)=(List.range 23).map λx=>some (.d (.tuple (atT x)),.cl)) (En h)
section
variable(k:Nat){ext:List PyData}{nums:List Nat}
theorem Pt(σ:Sg):(List.range 23).map (λx=>(cx (k+1)).call "_law_name" [iV x] σ)=(List.range 23).map λx=>some ((.d (C6 x),.cl),σ):=by kernel_rfl
theorem Nq{n:Nat}{ns:List Nat}{kd:Kd}(tw:Bool)(h:∀x∈ns,x<23)(b:Tb 1 ext):
  ∃t' ext',(cx (k+9)).call "_law_kind" [wV,(.d (.list (ns.map C6)),kd),(.d (.bool tw),.cl)] (St ext (A8 nums n))=some ((.d (iN t'),.cl),St ext' (A8 nums n))∧Gr 1 ext ext'∧R ext' t' (N (B5 (ns.map (Kg tw)))):=by
 obtain⟨t',ext',e,g,hR⟩:=B2 k (A8 nums n) (x:=.list ((ns.map (Ff tw)).map iN)) (kd:=.fr) rfl b (o0 (tw:=tw) h)
 refine⟨t',ext',?_,g,hR⟩
 have c1:∀ρ,Bn ρ [("w",.val,.o 16),("names",Du kd,.d (.list (ns.map C6))),("twin",.val,.d (.bool tw))]→J7 (rl (cx (k+8))) (lc "_law_kind" 786027081) (Cg "_law_kind") ρ (St ext (A8 nums n))=some ((.d (.list ((ns.map (Ff tw)).map iN)),.fr),St ext (A8 nums n)):=by
  rw[List.map_map]
  refine xC [] (by kernel_rfl) (by cases kd<;>kernel_rfl) (Fo.map (i:=C6) λx hx=>?_)
  have a:=Ii (σ:=St ext (A8 nums n)) (h x hx)
  cases tw
  ·exact xT [.v 786028044 a]
  ·exact xT [.v 786028044 a]
 exact xF [.e 786027081 c1,.c e]
end
end
section
open PySem
theorem jD{x y:Nat}(hx:x<23)(hy:y<23):PyData.eqv (C6 x) (C6 y)=Nat.beq x y:=by
 have key:((List.range 23).all λx=>(List.range 23).all λy=>PyData.eqv (C6 x) (C6 y)==Nat.beq x y)=true:=by decide +kernel
 exact eq_of_beq (Be (Be key x (En hx)) y (En hy))
theorem Pr{x:Nat}(hx:x<23):Dv (C6 x)=true:=by
 have key:((List.range 23).all λx=>Dv (C6 x))=true:=by decide +kernel
 exact Be key x (En hx)
noncomputable def A3(xs:List Nat)(x:Nat):Bool:=xs.any λy=>Nat.beq y x
theorem At{xs:List Nat}{x:Nat}:A3 xs x=true↔x∈xs:=Nr
theorem jC{xs:List Nat}(h:∀y∈xs,y<23):(xs.map C6).all Dv=true:=by
 rw[List.all_map,List.all_eq_true]
 exactλy hy=>Pr (h y hy)
theorem a9{xs:List Nat}{x:Nat}(h:∀y∈xs,y<23)(hx:x<23):((xs.map C6).any λy=>PyData.eqv y (C6 x))=A3 xs x:=by
 rw[List.any_map]
 exact Bw λy hy=>jD (h y hy) hx
theorem aA{xs:List Nat}{x:Nat}{σ:Sg}(h:∀y∈xs,y<23)(hx:x<23):Cp .NotIn (.d (C6 x)) (.d (.list (xs.map C6))) σ=some (!A3 xs x):=by
 show o1 (iB (Dv (C6 x)&&(xs.map C6).all Dv) (some ((xs.map C6).any λy=>PyData.eqv y (C6 x)))) _=_
 rw[Pr hx,jC h,a9 h hx];rfl
theorem Y0{xs:List Nat}{x:Nat}{σ:Sg}(h:∀y∈xs,y<23)(hx:x<23):Cp .In (.d (C6 x)) (.d (.list (xs.map C6))) σ=some (A3 xs x):=by
 show(match Dv (C6 x)&&(xs.map C6).all Dv with|true=>some ((xs.map C6).any λy=>PyData.eqv y (C6 x))|false=>none)=_
 rw[Pr hx,jC h,a9 h hx];rfl
theorem Mq(y v:Nat):PyData.eqv (iN y) (iN v)=Nat.beq y v:=by
 show(Int.ofNat y==Int.ofNat v)=Nat.beq y v
 rw[Bool.eq_iff_iff,beq_iff_eq]
 exact⟨λe=>Int.ofNat.inj e▸Nat.beq_refl y,λe=>by rw[Bu e]⟩
theorem O1{l:List Nat}{v:Nat}:((l.map iN).any λy=>PyData.eqv y (iN v))=A3 l v:=by
 rw[List.any_map]
 exact Bw λy η=>Mq y v
theorem Re{l:List Nat}:(l.map iN).all Dv=true:=by
 rw[List.all_map,List.all_eq_true]
 exactλη η=>rfl
theorem Hp{l:List Nat}{v:Nat}{σ:Sg}:Cp .NotIn (.d (iN v)) (.d (.list (l.map iN))) σ=some (!A3 l v):=by
 show o1 (iB (Dv (iN v)&&(l.map iN).all Dv) (some ((l.map iN).any λy=>PyData.eqv y (iN v)))) _=_
 rw[Re,O1];rfl
theorem Rh{l:List Nat}{v:Nat}{σ:Sg}:Cp .In (.d (iN v)) (.d (.list (l.map iN))) σ=some (A3 l v):=by
 show(match Dv (iN v)&&(l.map iN).all Dv with|true=>some ((l.map iN).any λy=>PyData.eqv y (iN v))|false=>none)=_
 rw[Re,O1];rfl
theorem Nc{a b:Nat}(h:a+b≤8000):room (a+b)=true:=Sc (Ag h (by decide))
theorem Eg{α:Type}{g:α→PyData}{os:List α}{x:α}{kd:Kd}(hc:Em (V.d (g x),kd)=some (g x))(h:os.length≤4000):o1 (Gy "append" (.d (.list (os.map g))) [(.d (g x),kd)]) (λv=>some (v,Kd.cl))=some (.d (.list ((os++[x]).map g)),.cl):=by
 show o1 (o1 (Em (V.d (g x),kd)) λy=>iB (room ((os.map g).length+1)) (some (V.d (.list (os.map g++[y]))))) _=_
 rw[Nc (by rw[List.length_map];exact Nat.add_le_add h (show 1≤4000 by decide)),hc,List.map_append]
 rfl
theorem I7{α:Type}{g:α→PyData}{os ys:List α}{x:PyData}{kd:Kd}(hs:Lm x=some (ys.map g))(h:os.length≤4000)(h2:ys.length≤4000):o1 (Gy "extend" (.d (.list (os.map g))) [(.d x,kd)]) (λv=>some (v,Kd.cl))=some (.d (.list ((os++ys).map g)),.cl):=by
 show o1 (o1 (Lm x) λys=>iB (room ((os.map g).length+ys.length)) (some (V.d (.list (os.map g++ys))))) _=_
 rw[hs,List.map_append]
 show o1 (iB (room ((os.map g).length+(ys.map g).length)) _) _=_
 rw[Nc (by rw[List.length_map,List.length_map];exact Nat.add_le_add h h2)]
 rfl
noncomputable def Dd(acc:List Nat)(x:Nat):List Nat:=acc++(hv x).filter λv=>!A3 acc v
noncomputable def Bg(xs:List Nat):List Nat:=xs.foldl Dd []
noncomputable def U4:List Nat→Bool
 |[u]=>Nat.beq u 3
 |_=>false
noncomputable def wR(us hl:List Nat):Bool:=Nat.ble us.length 1&&(Nat.beq hl.length 1&&!U4 us)
noncomputable def Ji(us hl:List Nat):Int:=match wR us hl with
 |true=>Int.ofNat (hl.getD 0 0)
 |false=> -1
noncomputable def A99(t:Nat)(tw:Bool)(xs:List Nat):PyData:=.dict [(.str "t",iN t),(.str "names",.list (xs.map C6)),(.str "held",.list ((Bg xs).map iN)),(.str "unit",.int (Ji (Jf tw xs) (Bg xs)))]
theorem A27{x:Nat}(h:x<23):(hv x).length≤14:=(by decide +kernel:∀x<23,(hv x).length≤14) x h
theorem Rj{x:Nat}(f:Nat→Bool)(h:x<23):((hv x).filter f).length≤14:=Ag (List.length_filter_le f _) (A27 h)
theorem B99{xs:List Nat}:∀{acc:List Nat},(∀x∈xs,x<23)→(xs.foldl Dd acc).length≤acc.length+14*xs.length:=by
 induction xs with
 |nil=>exactλη=>Nat.le_refl _
 |cons x xs ih=>exactλ{acc} h=>Ag (ih (acc:=Dd acc x) λy hy=>h y (.tail _ hy)) (by
   unfold Dd
   rw[List.length_append,Nat.add_assoc]
   exact Nat.add_le_add_left (Ag (Nat.add_le_add_right (Rj _ (h x (.head _))) _) (Nat.le_of_eq (Nat.add_comm ..))) _)
theorem Nt{ext:List PyData}{t:Nat}{us:List Nat}(h:K ext t us)(hb:∀u∈us,u∈A0):∃row f,B9 ext t=some row∧(∀σ,Hg (.d row) (.d (.int 0)) σ=some (.d (iN f),.cl))∧(!PyData.eqv (iN f) (.int 6))=Nat.ble us.length 1∧PyData.eqv (iN t) (.int 3)=U4 us:=by
 cases h with
 |never=>exact⟨_,1,Df (by decide),λη=>rfl,rfl,rfl⟩
 |one hp=>
  have hbt:=hb t (.head _)
  have e:=Ay (by kernel_rfl:A0.map (λt=>(base[t]?).bind λrow=>Hg (.d row) (.d (.int 0)) [])=A0.map λt=>some (.d (iN (sP t)),.cl)) hbt
  cases q:base[t]? with
  |none=>rw[q]at e;cases e
  |some row=>
   rw[q]at e
   exact⟨row,sP t,(Df (B8 hbt)).trans q,λσ=>e,(by decide +kernel:∀t∈A0,(!PyData.eqv (iN (sP t)) (.int 6))=true) t hbt,Mq t 3⟩
 |many hr h2 _ _=>
  refine⟨_,6,hr,λη=>rfl,?_,?_⟩
  ·cases q:Nat.ble us.length 1 with
   |false=>rfl
   |true=>exact absurd (Nat.ble_eq.mp q) (Nat.not_le.mpr h2)
  ·rw[show PyData.eqv (iN t) (.int 3)=false from Cn (b:=3) (Ea hr (by decide) rfl)]
   obtain _|⟨a,_|⟨b,r⟩⟩:=us
   ·rfl
   ·exact(Nat.not_succ_le_self 1 h2).elim
   ·rfl
theorem aU{x:Nat}{σ:Sg}(h:x<23):Cp .NotEq (.d (C6 x)) (.d (.str "never")) σ=some (!Nat.beq x 22):=
 (Jb (Pr h) (Pr (by decide))).trans (congrArg (λb=>some !b) (jD (y:=22) h (by decide)))
theorem Ia{α:Type}{g:α→PyData}{l:List α}(n:Nat):PyData.eqv (.int ((l.map g).length:Int)) (.int (Int.ofNat n))=Nat.beq l.length n:=by
 rw[List.length_map]
 exact Mq _ _
noncomputable def Rv(xs:List Nat):A1:=[("w",.val,.o 16),("names",.own,.d (.list (xs.map C6)))]
noncomputable def Ru(xs:List Nat)(t:Nat)(acc:List Nat):A1:=[("w",.val,.o 16),("names",.val,.d (.list (xs.map C6))),("t",.val,.d (iN t)),("held",.own,.d (.list (acc.map iN)))]
theorem H0{α:Type}{P:α→Prop}:∀x∈([]:List α),P x:=λη h=>absurd h List.not_mem_nil
theorem xM{α:Type}{P:α→Prop}{b:Bool}{x y:α}(h1:b=true→P x)(h2:P y):P (cond b x y):=match b,h1 with
 |true,h1=>h1 rfl
 |false,_=>h2
noncomputable def cD(xs:List Nat)(x:Nat):List Nat:=cond (!A3 xs x&&!Nat.beq x 22) (xs++[x]) xs
noncomputable def Z5(xs:List Nat):Prop:=xs.Nodup∧∀x∈xs,x<22
theorem Z5.add{xs:List Nat}{x:Nat}(h:Z5 xs)(hx:x<23):Z5 (cD xs x):=
 xM (P:=Z5) (λq=>have q:=Ab q
  ⟨List.nodup_append.mpr ⟨h.1,List.pairwise_singleton _ _,λa ha b hb e=>nomatch (congrArg not (At.mpr (e.trans (Hd hb)▸ha))).symm.trans q.1⟩,λz hz=>(sB hz).elim (h.2 z) λhz=>Hd hz▸Nat.lt_of_le_of_ne (Nat.le_of_lt_succ hx) λe=>nomatch (congrArg (λx=>!Nat.beq x 22) e).symm.trans q.2⟩) h
theorem f6{xs:List Nat}{x m:Nat}(h:xs.length+(m+1)≤2):(cD xs x).length+m≤2:=
 xM (P:=λl:List Nat=>l.length+m≤2) (λη=>by rw[List.length_append,List.length_singleton,Nat.add_assoc,Nat.add_comm 1];exact h) (Ag (Nat.add_le_add_left (Nat.le_succ _) _) h)
theorem W6{acc:List Nat}{x m:Nat}(hx:x<23)(h:acc.length+14*(m+1)≤28):(Dd acc x).length+14*m≤28:=by
 unfold Dd
 rw[List.length_append,Nat.add_assoc]
 exact Ag (Nat.add_le_add_left (Ag (Nat.add_le_add_right (Rj _ hx) _) (Nat.le_of_eq (Nat.add_comm ..))) _) h
section
variable(k:Nat){ext:List PyData}{nums:List Nat}
theorem eE{x n:Nat}{xs:List Nat}{y:PyData}(hx:x<23)(h:Z5 xs)(hl:xs.length≤4000)(r:(cx (k+9)).call "_law_take" [wV,(.d (.int 23),.cl)] (St ext (A8 nums n))=some ((.d (iN x),.cl),St ext (A8 nums (n+1)))):Bd (cx (k+9)) (Eb "_law_test" 789) (Cg "_law_test") y (Rv xs) (St ext (A8 nums n)) .nx (Rv (cD xs x)) (St ext (A8 nums (n+1))):=
 .sub (Qi (w:=cx (k+9)) (.b 0 .l (.b 1 .l .l)) (en:=bs [!A3 xs x,!Nat.beq x 22]) (f:=λη=>.nx) (l':=λe=>Rv (cond (e 0&&e 1) (xs++[x]) xs)++([("go",.val,.d y),("name",.val,.d (C6 x))]:A1)) (σ':=λη=>St ext (A8 nums (n+1)))
  [.cw r,.cw (Ay (Pt (k+8) (St ext (A8 nums (n+1)))) (En hx)),.d 791011028 0 (aA (σ:=St ext (A8 nums (n+1))) (λy hy=>Nat.lt_succ_of_lt (h.2 y hy)) hx),.d 791033048 1 (aU (σ:=St ext (A8 nums (n+1))) hx),.v 792012030 (Eg (g:=C6) (os:=xs) (x:=x) (kd:=.cl) rfl hl)] λe=>by kernel_rfl) .refl (.app rfl)
theorem v3{C:Prop}{B:Nat}(h0:0<nums.length)(h1:nums.length<1000)(hB:B≤900003){ys:List PyData}:∀{xs:List Nat}{n:Nat},Z5 xs→xs.length+ys.length≤2→n+ys.length≤B→(∀(xs':List Nat) n',n'≤B→Z5 xs'→xs'.length≤2→Lp (cx (k+9)) (Eb "_law_test" 789) (Cg "_law_test") ys (Rv xs) (St ext (A8 nums n)) .nx (Rv xs') (St ext (A8 nums n'))→C)→C:=by
 induction ys with
 |nil=>exactλ{xs n} hx hl hn z=>z xs n hn hx hl (.nil .refl)
 |cons y ys ih=>
  exactλ{xs n} hx hl hn z=>(B3 (k+8) (ext:=ext) (N:=23) (NI:=23) rfl h0 h1 (n:=n) (Nat.lt_of_le_of_lt (Ag (Ag (Nat.le_add_right _ _) hn) hB) (by decide)) (by decide)).elim λx h=>
   ih (xs:=cD xs x) (n:=n+1) (hx.add h.1) (f6 hl) (Nat.succ_add_eq_add_succ n ys.length▸hn) λxs' n' hn' h2 h3 lp=>z xs' n' hn' h2 h3 (.go (eE k h.1 hx (Ag (Ag (Nat.le_add_right _ _) hl) (by decide)) h.2) lp)
theorem dR{x j:Nat}{xs0 acc:List Nat}{t:Nat}(hx:x<23)(hl:acc.length≤4000):Bd (cx (k+9)) (Eb "_law_test" 795) (Cg "_law_test") (C6 x) (Ru xs0 t acc) (St ext (A8 nums j)) .nx (Ru xs0 t (Dd acc x)) (St ext (A8 nums j)):=
 .sub (Je (l':=Ru xs0 t (Dd acc x)++([("name",.val,.d (C6 x))]:A1)) [.v 796032048 (Ii (σ:=St ext (A8 nums j)) hx),.k (l:=Ru xs0 t acc++([("name",.val,.d (C6 x))]:A1)) (xK "_law_test" 796020069 (σ:=St ext (A8 nums j)) [.v 796032048 (Ii (σ:=St ext (A8 nums j)) hx)] (by kernel_rfl) (by kernel_rfl) (Fo.flt (hv x) (p:=λv=>!A3 acc v) (i:=iN) (f:=iN) λv η=>Ze (.b 0 .l .l) (en:=bs [!A3 acc v]) (σ':=λη=>St ext (A8 nums j)) (y:=λe=>cond (e 0) (some (iN v)) none) [.d 796055068 0 (Hp (σ:=St ext (A8 nums j)))] λe=>by kernel_rfl)),
  .v 796008070 (I7 (g:=iN) (os:=acc) (ys:=(hv x).filter λv=>!A3 acc v) (x:=.list (((hv x).filter λv=>!A3 acc v).map iN)) (kd:=.fr) rfl hl (Ag (Rj _ hx) (by decide)))] (by kernel_rfl)) .refl (.app rfl)
theorem t7{xs0:List Nat}{t j:Nat}{rest:List Nat}:∀{acc:List Nat},(∀x∈rest,x<23)→acc.length+14*rest.length≤28→
  Lp (cx (k+9)) (Eb "_law_test" 795) (Cg "_law_test") (rest.map C6) (Ru xs0 t acc) (St ext (A8 nums j)) .nx (Ru xs0 t (rest.foldl Dd acc)) (St ext (A8 nums j)):=by
 induction rest with
 |nil=>exactλη η=>.nil .refl
 |cons x rest ih=>exactλ{acc} hr hl=>.go (dR k (hr x (.head _)) (Ag (Ag (Nat.le_add_right _ _) hl) (by decide))) (ih (λy hy=>hr y (.tail _ hy)) (W6 (hr x (.head _)) hl))
end
end
section
open PySem
section
variable(k:Nat){ext:List PyData}{nums:List Nat}
noncomputable def mW:PyData:=.tuple [.int 1,.int 1,.int 2,.int 1,.int 2,.int 0]
theorem v4{r:Nat}(hr:r<6)(σ:Sg):∃m,m≤2∧Hg (.d mW) (.d (iN r)) σ=some (.d (iN m),.cl):=
 ⟨[1,1,2,1,2,0].getD r 0,(by decide:∀r<6,[1,1,2,1,2,0].getD r 0≤2) r hr,Ay (by kernel_rfl:(List.range 6).map (λr=>Hg (.d mW) (.d (iN r)) σ)=(List.range 6).map λr=>some (.d (iN ([1,1,2,1,2,0].getD r 0)),.cl)) (En hr)⟩
noncomputable abbrev Bi:=Nat×Bool×List Nat
noncomputable abbrev Ah(a:Bi):PyData:=A99 a.1 a.2.1 a.2.2
noncomputable def o3(a:Bi):List Nat:=Jf a.2.1 a.2.2
structure Bc(ext:List PyData)(a:Bi):Prop where
 nd:a.2.2.Nodup
 lt:∀x∈a.2.2,x<22
 len:a.2.2.length≤2
 kd:K ext a.1 (o3 a)
theorem Bc.mono{n:Nat}{a b:List PyData}(g:Gr n a b){q:Bi}(h:Bc a q):Bc b q:=⟨h.nd,h.lt,h.len,h.kd.mono g⟩
variable{n j r r2 m t:Nat}{tw:Bool}{xs us l:List Nat}{ext':List PyData}
noncomputable abbrev A98(t:Nat)(xs l:List Nat)(u:Int):PyData:=.dict [(.str "t",iN t),(.str "names",.list (xs.map C6)),(.str "held",.list (l.map iN)),(.str "unit",.int u)]
theorem gJ(e1:(cx (k+9)).call "_law_take" [wV,(.d (.int 6),.cl)] (St ext (A8 nums n))=some ((.d (iN r),.cl),St ext (A8 nums (n+1))))(em:Hg (.d mW) (.d (iN r)) (St ext (A8 nums (n+1)))=some (.d (iN m),.cl))(hm:m≤2)
  (lp:Lp (cx (k+9)) (Eb "_law_test" 789) (Cg "_law_test") ((List.range m).map iN) (Rv []) (St ext (A8 nums (n+1))) .nx (Rv xs) (St ext (A8 nums j)))
  (e2:(cx (k+9)).call "_law_take" [wV,(.d (.int 2),.cl)] (St ext (A8 nums j))=some ((.d (iN r2),.cl),St ext (A8 nums (j+1))))
  (e3:(cx (k+9)).call "_law_kind" [wV,(.d (.list (xs.map C6)),.al "names"),(.d (.bool (PyData.eqv (iN r2) (.int 1))),.cl)] (St ext (A8 nums (j+1)))=some ((.d (iN t),.cl),St ext' (A8 nums (j+1))))
  (lp2:Lp (cx (k+9)) (Eb "_law_test" 795) (Cg "_law_test") (xs.map C6) (Ru xs t []) (St ext' (A8 nums (j+1))) .nx (Ru xs t l) (St ext' (A8 nums (j+1))))
  {row:PyData} {f:Nat} (hrow:B9 ext' t=some row) (ef:∀σ,Hg (.d row) (.d (.int 0)) σ=some (.d (iN f),.cl)) (q1:(!PyData.eqv (iN f) (.int 6))=Nat.ble us.length 1) (q3:PyData.eqv (iN t) (.int 3)=U4 us):
  (cx (k+10)).call "_law_test" [wV] (St ext (A8 nums n))=some ((.d (A98 t xs l (cond (Nat.ble us.length 1&&(Nat.beq l.length 1&&!U4 us)) (Int.ofNat (l.getD 0 0)) (-1))),.fr),St ext' (A8 nums (j+1))):=by
 have lp1:=P3 (w:=cx (k+9)) (sc:=Cg "_law_test") (st:=Eb "_law_test" 789) (l:=Rv []) (σ:=St ext (A8 nums n)) (x:=.list ((List.range m).map iN)) [.c e1,.v 789020055 em,.l 789014056 (Nv (Ag hm (by decide)))] (by kernel_rfl) (by kernel_rfl) (by kernel_rfl) rfl lp
 have lp2:=xL (w:=cx (k+9)) (sc:=Cg "_law_test") (st:=Eb "_law_test" 795) (l:=Rv xs++([("t",.val,.d (iN t)),("held",.own,.d (.list []))]:A1)) (l0:=Ru xs t []) (σ:=St ext' (A8 nums (j+1))) (x:=.list (xs.map C6)) [] (by kernel_rfl) (by kernel_rfl) (by kernel_rfl) rfl lp2
 cases l with
 |nil=>exact xFt (.b 0 .l .l) (en:=bs [Nat.ble us.length 1]) (r:=λe=>(.d (A98 t xs [] (cond (e 0&&false) 0 (-1))),.fr)) (σ':=λη=>St ext' (A8 nums (j+1))) [.cw e1,.s 789 lp1,.cw e2,.cw e3,.s 795 lp2,.v 797011027 (Bj (A8 nums (j+1)) hrow),.v 797011030 (ef (St ext' (A8 nums (j+1)))),.d 797011041 0 ((Jb (σ:=St ext' (A8 nums (j+1))) rfl rfl).trans (congrArg some q1))] λe=>by kernel_rfl
 |cons v l=>exact xFt (.b 0 .l (.b 1 .l (.b 2 .l .l))) (en:=bs [Nat.ble us.length 1,Nat.beq (v::l).length 1,!U4 us]) (r:=λe=>(.d (A98 t xs (v::l) (cond (e 0&&(e 1&&e 2)) (Int.ofNat v) (-1))),.fr)) (σ':=λη=>St ext' (A8 nums (j+1))) [.cw e1,.s 789 lp1,.cw e2,.cw e3,.s 795 lp2,.v 797011027 (Bj (A8 nums (j+1)) hrow),.v 797011030 (ef (St ext' (A8 nums (j+1)))),.d 797011041 0 ((Jb (σ:=St ext' (A8 nums (j+1))) rfl rfl).trans (congrArg some q1)),.g 797046060 1 (Ia (g:=iN) (l:=v::l) 1),.d 797066075 2 ((Jb (σ:=St ext' (A8 nums (j+1))) rfl rfl).trans (congrArg (λb=>some !b) q3)),.v 798058065 (A15 (i:=0) (l:=v::l) (σ:=St ext' (A8 nums (j+1))) rfl)] λe=>by kernel_rfl
theorem Pg{C:Prop}(h0:0<nums.length)(h1:nums.length<1000)(h:n<900000)(b:Tb 1 ext)(z:∀(a:Bi) n' ext',(cx (k+10)).call "_law_test" [wV] (St ext (A8 nums n))=some ((.d (Ah a),.fr),St ext' (A8 nums n'))→n'≤n+4→Gr 1 ext ext'→Bc ext' a→C):C:=
 (B3 (k+8) (ext:=ext) (N:=6) (NI:=6) rfl h0 h1 (n:=n) (Nat.lt_trans h (by decide)) (by decide)).elim λr h2=>(v4 h2.1 (St ext (A8 nums (n+1)))).elim λm h3=>
  v3 k (ext:=ext) (B:=n+3) (ys:=(List.range m).map iN) (xs:=[]) (n:=n+1) h0 h1 (Nat.add_le_add_right (Nat.le_of_lt h) 3) ⟨.nil,H0⟩ (by rw[List.length_map,List.length_range];exact Ag (Nat.le_of_eq (Nat.zero_add m)) h3.1) (by rw[List.length_map,List.length_range];exact Nat.add_le_add_left h3.1 (n+1)) λxs j hj hx hl lp=>
   have hx23:=λx hm=>Nat.lt_succ_of_lt (hx.2 x hm)
   (B3 (k+8) (ext:=ext) (N:=2) (NI:=2) rfl h0 h1 (n:=j) (Nat.lt_of_le_of_lt hj (Nat.lt_trans (Nat.add_lt_add_right h 3) (by decide))) (by decide)).elim λr2 h4=>
    (Nq k (n:=j+1) (nums:=nums) (kd:=.al "names") (PyData.eqv (iN r2) (.int 1)) hx23 b).elim λt h5=>h5.elim λe h5=>
     have hK:=(yI hx.2 hl h5.2.2).1
     (Nt hK (Fx hx.2 hl).2.2).elim λrow h6=>h6.elim λf h6=>
      z (t,PyData.eqv (iN r2) (.int 1),xs) (j+1) e (gJ k (us:=Jf (PyData.eqv (iN r2) (.int 1)) xs) (l:=Bg xs) h2.2 h3.2 h3.1 lp h4.2 h5.1 (t7 k hx23 (Ag (Nat.le_of_eq (Nat.zero_add _)) (Nat.mul_le_mul_left 14 hl))) h6.1 h6.2.1 h6.2.2.1 h6.2.2.2) (Nat.succ_le_succ hj) h5.2.1 ⟨hx.1,hx.2,hl,hK⟩
end
end
section
open PySem
theorem Ur{α:Type}{g:α→PyData}{l:List α}{i:Nat}{v:α}{σ:Sg}(h:l[i]?=some v):Hg (.d (.list (l.map g))) (.d (iN i)) σ=some (.d (g v),.cl):=by
 have hl:i<(l.map g).length:=by rw[List.length_map];exact(dU h).1
 show o1 (o1 (o1 (wL (Int.ofNat i) (l.map g).length) λj=>(l.map g)[j]?) _) _=_
 rw[Zw hl]
 show o1 (o1 (l.map g)[i]? _) _=_
 rw[List.getElem?_map,h];rfl
noncomputable def V6(c:Nat)(qs:List Bi):A1:=[("w",.val,.o 16),("count",.val,.d (iN c)),("out",.own,.d (.list (qs.map Ah)))]
section
variable(k:Nat){nums:List Nat}{ext:List PyData}{n c p m:Nat}{qs:List Bi}
noncomputable def Z1(ext:List PyData)(qs:List Bi):Prop:=∀q∈qs,Bc ext q
noncomputable abbrev TsT(k:Nat)(nums:List Nat)(c p:Nat)(qs:List Bi)(ext:List PyData)(n:Nat)(a:Bi)(e:List PyData)(n':Nat):Prop:=Bd (cx (k+10)) (Eb "_law_tests" 913) (Cg "_law_tests") (iN p) (V6 c qs) (St ext (A8 nums n)) .nx (V6 c (qs++[a])) (St e (A8 nums n'))
theorem Wp{C:Prop}(h0:0<nums.length)(h1:nums.length<1000)(hl:qs.length=p)(h4:p≤100)(h:n<800000)(b:Tb 1 ext)(ok:Z1 ext qs)(z:∀a e n',TsT k nums c p qs ext n a e n'→n'≤n+6→Gr 1 ext e→Bc e a→C):C:=by
 have hl4:qs.length≤4000:=hl▸Ag h4 (by decide)
 cases p with
 |zero=>exact Pg k h0 h1 (n:=n) (Nat.lt_trans h (by decide)) b λa n' e c2 h2 g oa=>z a e n' (.sub (Je (l':=V6 c (qs++[a])++([("place",.val,.d (iN 0))]:A1)) [.c c2,.v 917012036 (Eg (os:=qs) (g:=Ah) (x:=a) (kd:=.fr) rfl hl4)] (by kernel_rfl)) .refl (.app rfl)) (Ag h2 (Nat.add_le_add_left (by decide) n)) g oa
 |succ p=>
  refine(B3 (k+9) (ext:=ext) (N:=5) (NI:=5) rfl h0 h1 (n:=n) (Nat.lt_trans h (by decide)) (by decide)).elim λr h3=>?_
  have hgt:decide ((0:Int) <Int.ofNat (p+1))=true:=decide_eq_true (Int.ofNat_lt.mpr (Nat.succ_pos p))
  cases q:PyData.eqv (iN r) (.int 1)with
  |true=>exact(B3 (k+9) (ext:=ext) (N:=p+1) (NI:=Int.ofNat (p+1)) rfl h0 h1 (n:=n+1) (Nat.lt_of_lt_of_le (Nat.add_lt_add_right h 1) (by decide)) (Nat.succ_pos p)).elim λr3 h5=>z (qs[r3]'(hl▸h5.1)) ext (n+1+1) (.sub (Je (l':=V6 c (qs++[qs[r3]'(hl▸h5.1)])++([("place",.val,.d (iN (p+1)))]:A1)) [.t 914011020 hgt,.c h3.2,.t 914025045 q,.c h5.2,.v 915023047 (Ur (g:=Ah) (σ:=St ext (A8 nums (n+1+1))) (List.getElem?_eq_getElem (hl▸h5.1))),.v 915012048 (Eg (os:=qs) (g:=Ah) (x:=qs[r3]'(hl▸h5.1)) (kd:=.cl) rfl hl4)] (by kernel_rfl)) .refl (.app rfl)) (Nat.add_le_add_left (show 2≤6 by decide) n) ((Gr.refl b.wf).le (Nat.zero_le 1)) (ok _ (List.getElem_mem _))
  |false=>exact Pg k h0 h1 (n:=n+1) (Nat.lt_of_lt_of_le (Nat.add_lt_add_right h 1) (by decide)) b λa n' e c2 h2 g oa=>z a e n' (.sub (Je (l':=V6 c (qs++[a])++([("place",.val,.d (iN (p+1)))]:A1)) [.t 914011020 hgt,.c h3.2,.t 914025045 q,.c c2,.v 917012036 (Eg (os:=qs) (g:=Ah) (x:=a) (kd:=.fr) rfl hl4)] (by kernel_rfl)) .refl (.app rfl)) (Ag h2 (Ag (Nat.le_of_eq (Nat.add_assoc n 1 4)) (Nat.add_le_add_left (by decide) n))) g oa
theorem Z1.add{e:List PyData}{a:Bi}(h:Z1 ext qs)(g:Gr 1 ext e)(ha:Bc e a):Z1 e (qs++[a]):=λq hq=>(sB hq).elim (λhq=>(h q hq).mono g) λhq=>Hd hq▸ha
theorem gI{C:Prop}{B:Nat}(h0:0<nums.length)(h1:nums.length<1000)(hc:c≤100)(hB:B<800000):∀{p n:Nat}{ext:List PyData}{qs:List Bi},qs.length=p→p+m=c→n+6*m≤B→Tb m ext→Z1 ext qs→
  (∀qs' n' e,Lp (cx (k+10)) (Eb "_law_tests" 913) (Cg "_law_tests") ((List.range' p m).map iN) (V6 c qs) (St ext (A8 nums n)) .nx (V6 c qs') (St e (A8 nums n'))→n'≤B→Gr m ext e→qs'.length=c→Z1 e qs'→C)→C:=by
 induction m with
 |zero=>exactλ{p n ext qs} hl hp hn b ok z=>z qs n ext (.nil .refl) hn (Gr.refl b.wf) (hl.trans hp) ok
 |succ m ih=>
  exactλ{p n ext qs} hl hp hn b ok z=>Wp k (c:=c) h0 h1 hl (Ag (Ag (Nat.le_add_right _ _) (Nat.le_of_eq hp)) hc) (Nat.lt_of_le_of_lt (Ag (Nat.le_add_right _ _) hn) hB) (b.le (Nat.succ_pos m)) ok λa e n1 bd h2 g oa=>
   ih (p:=p+1) (n:=n1) (qs:=qs++[a]) (List.length_append.trans (congrArg Nat.succ hl)) ((Nat.succ_add_eq_add_succ p m).trans hp) (Ag (Nat.add_le_add_right h2 _) (Ag (Nat.le_of_eq ((Nat.add_assoc ..).trans (congrArg (n+·) (Nat.add_comm ..)))) hn)) (Tb.gr (n:=1) (m:=m) (b.le (Nat.le_of_eq (Nat.add_comm ..))) g) (ok.add g oa) λqs' n' e' lp h3 g2 h5 ok'=>z qs' n' e' (.go bd lp) h3 ((g.trans g2).le (Nat.le_of_eq (Nat.add_comm ..))) h5 ok'
theorem Wq{C:Prop}(h0:0<nums.length)(h1:nums.length<1000)(h:n<100000)(hc:c≤100)(b:Tb c ext)
  (z:∀(qs:List Bi)(n':Nat)(ext':List PyData),(cx (k+11)).call "_law_tests" [wV,iV c] (St ext (A8 nums n))=some ((.d (.list (qs.map Ah)),.fr),St ext' (A8 nums n'))→n'≤n+6*c→Gr c ext ext'→qs.length=c→Z1 ext' qs→C):C:=
 gI k (B:=n+6*c) (p:=0) (n:=n) (qs:=[]) h0 h1 hc (Nat.lt_of_lt_of_le (Nat.add_lt_add_of_lt_of_le h (Nat.mul_le_mul_left 6 hc)) (by decide)) rfl (Nat.zero_add c) (Nat.le_refl _) b H0 λqs n' e lp h2 g hl ok=>z qs n' e (xF [.s 913 (P3 (l:=V6 c []) (σ:=St ext (A8 nums n)) (x:=.list ((List.range c).map iN)) [.l 913017029 (Nv (Ag hc (by decide)))] (by kernel_rfl) (by kernel_rfl) (by kernel_rfl) (congrArg (λl=>some (List.map iN l)) List.range_eq_range') lp)]) h2 g hl ok
end
end
section
open PySem
noncomputable def B40(c:Nat):Str:=match c with
 |0=>"any"
 |1=>"unknown"
 |3=>"void"
 |10=>"object"
 |17=>"object"
 |19=>"object"
 |20=>"object"
 |11=>"{}"
 |21=>"T"
 |34=>"T"
 |_=>"value"
noncomputable def sD(c:Nat):PyData:=.str (B40 c)
noncomputable def F4(c:Nat):PyData:=.tuple [sD c,F2 (hC c)]
noncomputable def Cq(ns:List Nat):List Nat:=match A3 ns 21 with
 |true=>[0]
 |false=>match A3 ns 20 with
  |true=>[1]
  |false=>(ns.filter λx=>!Nat.beq x 22).map (Ff false)
noncomputable def lF(x:Nat):Bool:=[18,19,11].any λy=>Nat.beq y x
noncomputable def Ht(x:Nat):Bool:=[14,15,16,17].any λy=>Nat.beq y x
theorem Xy{x:Nat}{ys:List PyData}{b:Bool}{σ:Sg}(hx:x<23)(h:ys.all Dv=true)(e:(ys.any λy=>PyData.eqv y (C6 x))=b):Cp .In (.d (C6 x)) (.d (.tuple ys)) σ=some b:=by
 show(match Dv (C6 x)&&ys.all Dv with|true=>some (ys.any λy=>PyData.eqv y (C6 x))|false=>none)=_
 rw[Pr hx,h,← e];rfl
theorem C87{x:Nat}{σ:Sg}(hx:x<23):Cp .In (.d (C6 x)) (.d (.tuple [.str "T",.str "{}",.str "void"])) σ=some (lF x):=by
 have k:((List.range 23).all λx=>([PyData.str "T",.str "{}",.str "void"].any λy=>PyData.eqv y (C6 x))==lF x)=true:=by decide +kernel
 exact Xy hx (by decide +kernel) (eq_of_beq (Be k x (En hx)))
theorem B94{x:Nat}{σ:Sg}(hx:x<23):Cp .In (.d (C6 x)) (.d (.tuple [.str "k:a",.str "k:b",.str "p",.str "object"])) σ=some (Ht x):=by
 have k:((List.range 23).all λx=>([PyData.str "k:a",.str "k:b",.str "p",.str "object"].any λy=>PyData.eqv y (C6 x))==Ht x)=true:=by decide +kernel
 exact Xy hx (by decide +kernel) (eq_of_beq (Be k x (En hx)))
theorem Y5{x:Nat}(hx:x<23)(tw:Bool):hC (Ff tw x)=hv x:=(by decide +kernel:∀x<23,∀tw,hC (Ff tw x)=hv x) x hx tw
noncomputable def Zp(x:Nat):PyData:=match Ht x with
 |true=>.str "object"
 |false=>match lF x with
  |true=>C6 x
  |false=>.str "value"
theorem B48{x:Nat}(hx:x<20):F4 (Ff false x)=.tuple [Zp x,F2 (hv x)]:=
 Ay (f:=λx=>F4 (Ff false x)) (g:=λx=>.tuple [Zp x,F2 (hv x)]) (by kernel_rfl:(List.range 20).map (λx=>F4 (Ff false x))=(List.range 20).map λx=>.tuple [Zp x,F2 (hv x)]) (En hx)
noncomputable def Ln(ns:List Nat):List Nat:=(ns.filter λx=>!Nat.beq x 22).map (Ff false)
noncomputable def Rq(ns:List Nat)(sk:SK)(cs:List Nat):A1:=[("w",.val,.o 16),("names",sk,.d (.list (ns.map C6))),("top",.val,.d (.str "unknown")),("out",.own,.d (.list (cs.map F4)))]
section
variable(k:Nat){ext:List PyData}{nums:List Nat}
theorem Iz{n:Nat}{ns:List Nat}{sk:SK}:∀{rest cs:List Nat},(∀x∈rest,x<20∨x=22)→cs.length+rest.length≤100→
  Lp (cx (k+1)) (Eb "_law_parts" 804) (Cg "_law_parts") (rest.map C6) (Rq ns sk cs) (St ext (A8 nums n)) .nx (Rq ns sk (cs++Ln rest)) (St ext (A8 nums n))
 |[],cs,_,_=>.nil (by rw[show Ln []=[]from rfl,List.append_nil];exact .refl)
 |x::rest,cs,hr,hl=>by
  rw[List.length_cons]at hl
  rcases hr x (.head _)with hx|hx
  ·have h23:x<23:=Nat.lt_trans hx (by decide)
   have a:=Ii (σ:=St ext (A8 nums n)) h23
   have iT:=C87 (σ:=St ext (A8 nums n)) h23
   have iO:=B94 (σ:=St ext (A8 nums n)) h23
   have iN:=aU (σ:=St ext (A8 nums n)) h23
   have h22:Nat.beq x 22=false:=(by decide:∀x<20,Nat.beq x 22=false) x hx
   rw[h22]at iN
   have ow:=Eg (os:=cs) (g:=F4) (x:=Ff false x) (kd:=.cl) rfl (by omega)
   rw[B48 hx]at ow
   unfold Zp at ow
   have e:cs++Ln (x::rest)=(cs++[Ff false x])++Ln rest:=by
    rw[List.append_assoc]
    unfold Ln
    rw[List.filter_cons,h22];rfl
   rw[e]
   have nxt:∀{l},Bd (cx (k+1)) (Eb "_law_parts" 804) (Cg "_law_parts") (C6 x) (Rq ns sk cs) (St ext (A8 nums n)) .nx (Rq ns sk (cs++[Ff false x])++([("name",.val,.d (C6 x)),("sort",.val,l)]:A1)) (St ext (A8 nums n))→Lp (cx (k+1)) (Eb "_law_parts" 804) (Cg "_law_parts") ((x::rest).map C6) (Rq ns sk cs) (St ext (A8 nums n)) .nx (Rq ns sk ((cs++[Ff false x])++Ln rest)) (St ext (A8 nums n)):=λbd=>
    .go bd ((Iz (rest:=rest) (cs:=cs++[Ff false x]) (λy hy=>hr y (.tail _ hy)) (by rw[List.length_append,List.length_singleton];omega)).sub (.app rfl))
   cases q2:Ht x<;>rw[q2]at iO ow
   ·cases q1:lF x<;>rw[q1]at iT ow
    ·refine nxt (l:=.d (.str "value")) ?_
     exact Je [.b 805023050 iT,.b 806011048 iO,.b 808011026 iN,.v 809030046 a,.v 809012051 ow]
    ·refine nxt (l:=.d (C6 x)) ?_
     exact Je [.b 805023050 iT,.b 806011048 iO,.b 808011026 iN,.v 809030046 a,.v 809012051 ow]
   ·cases q1:lF x<;>rw[q1]at iT
    ·refine nxt (l:=.d (.str "object")) ?_
     exact Je [.b 805023050 iT,.b 806011048 iO,.b 808011026 iN,.v 809030046 a,.v 809012051 ow]
    ·refine nxt (l:=.d (.str "object")) ?_
     exact Je [.b 805023050 iT,.b 806011048 iO,.b 808011026 iN,.v 809030046 a,.v 809012051 ow]
  ·subst hx
   have e:Ln (22::rest)=Ln rest:=rfl
   rw[e]
   have bd:Bd (cx (k+1)) (Eb "_law_parts" 804) (Cg "_law_parts") (C6 22) (Rq ns sk cs) (St ext (A8 nums n)) .nx (Rq ns sk cs++([("name",.val,.d (C6 22)),("sort",.val,.d (.str "value"))]:A1)) (St ext (A8 nums n)):=by
    exact Je []
   exact .go bd ((Iz (rest:=rest) (cs:=cs) (λy hy=>hr y (.tail _ hy)) (by omega)).sub (.app rfl))
theorem d5{n:Nat}{ns:List Nat}{kd:Kd}(h:∀x∈ns,x<23)(hl:ns.length≤100):
  (cx (k+2)).call "_law_parts" [wV,(.d (.list (ns.map C6)),kd)] (St ext (A8 nums n))=some ((.d (.list ((Cq ns).map F4)),.fr),St ext (A8 nums n)):=by
 have i21:Cp .In (.d (.str "any")) (Xq "names" (Du kd,.d (.list (ns.map C6)))).1 (St ext (A8 nums n))=some (A3 ns 21):=by
  cases kd<;>exact Y0 (x:=21) h (by decide)
 have i20:Cp .In (.d (.str "unknown")) (Xq "names" (Du kd,.d (.list (ns.map C6)))).1 (St ext (A8 nums n))=some (A3 ns 20):=by
  cases kd<;>exact Y0 (x:=20) h (by decide)
 unfold Cq
 cases q:A3 ns 21<;>rw[q]at i21
 ·cases q2:A3 ns 20<;>rw[q2]at i20
  ·have lp:=P3 (l:=Rq ns (Du kd) []) (σ:=St ext (A8 nums n)) (x:=.list (ns.map C6)) [] (by kernel_rfl) (by kernel_rfl) (by cases kd<;>kernel_rfl) rfl (Iz k (ext:=ext) (nums:=nums) (n:=n) (ns:=ns) (sk:=Du kd) (rest:=ns) (cs:=[]) (λx hx=>by
    have h1:x≠20:=λc=>nomatch q2.symm.trans (At.mpr (c▸hx))
    have h2:x≠21:=λc=>nomatch q.symm.trans (At.mpr (c▸hx))
    have:=h x hx
    omega) (by rw[List.length_nil];omega))
   exact xF [.b 801011023 i21,.b 801011023 i20,.s 804 lp]
  ·exact xF [.b 801011023 i21,.b 801011023 i20]
 ·exact xF [.b 801011023 i21]
end
end
section
open PySem
noncomputable def Xm(l:List Nat)(x:Nat):Bool:=l.any λy=>Nat.beq y x
noncomputable def isO(c:Nat):Bool:=Xm [10,17,19,20] c
noncomputable def isT(c:Nat):Bool:=Xm [21,34] c
noncomputable def Bf(c:Nat):Bool:=!Xm [0,1,3,10,17,19,20,11,21,34] c
noncomputable def Y1(x:Nat):Bool:=Xm [0,1,11] x
theorem iC{c:Nat}(h:c<38):Dv (sD c)=true:=(by decide +kernel:∀c<38,Dv (sD c)=true) c h
theorem C53{c:Nat}{σ:Sg}(h:c<38){s:Str}{f:Nat→Bool}(hs:Dv (.str s)=true)(k:((List.range 38).all λc=>PyData.eqv (sD c) (.str s)==f c)=true):Cp .Eq (.d (sD c)) (.d (.str s)) σ=some (f c):=by
 rw[Lc (iC h) hs,eq_of_beq (Be k c (En h))]
theorem C51{c:Nat}{σ:Sg}(h:c<38):Cp .NotEq (.d (sD c)) (.d (.str "value")) σ=some (!Bf c):=by
 have k:((List.range 38).all λc=>PyData.eqv (sD c) (.str "value")==Bf c)=true:=by decide +kernel
 rw[Jb (iC h) (by decide +kernel),eq_of_beq (Be k c (En h))]
theorem C52{c:Nat}{σ:Sg}(h:c<34):Cp .In (.d (sD c)) (.d (.tuple [.str "unknown",.str "T"])) σ=some (Nat.beq c 1||Nat.beq c 21):=by
 have k:((List.range 34).all λc=>([PyData.str "unknown",.str "T"].any λy=>PyData.eqv y (sD c))==(Nat.beq c 1||Nat.beq c 21))=true:=by decide +kernel
 show(match Dv (sD c)&&[PyData.str "unknown",.str "T"].all Dv with|true=>some ([PyData.str "unknown",.str "T"].any λy=>PyData.eqv y (sD c))|false=>none)=_
 rw[iC (by omega),show [PyData.str "unknown",.str "T"].all Dv=true from by decide +kernel,← eq_of_beq (Be k c (En h))];rfl
noncomputable def eI{α:Type}(b0 b21 b20 b1 b11 b19 b18 bg b6 bT b3 b4 bO b5 be:Bool)(h f t n:α):α:=
 cond (b0||(b21||b20)) h (cond b1 (cond (b11||(b19||b18)) h (cond bg (cond b6 t h) f)) (cond bT (cond (b3||b4) f h) (cond bO (cond b5 h n) (cond (be&&(bg||(b18||b19))) h f))))
theorem oU{α β:Type}{g:α→β}{b:Bool}{x y:α}{x' y':β}(hx:g x=x')(hy:g y=y'):g (cond b x y)=cond b x' y':=match b with
 |true=>hx
 |false=>hy
theorem Gg{α β:Type}{g:α→β}{b0 b21 b20 b1 b11 b19 b18 bg b6 bT b3 b4 bO b5 be:Bool}{h f t n:α}{h' f' t' n':β}(e1:g h=h')(e2:g f=f')(e3:g t=t')(e0:g n=n'):
  g (eI b0 b21 b20 b1 b11 b19 b18 bg b6 bT b3 b4 bO b5 be h f t n)=eI b0 b21 b20 b1 b11 b19 b18 bg b6 bT b3 b4 bO b5 be h' f' t' n':=oU e1 (oU (oU e1 (oU (oU e3 e1) e2)) (oU (oU e2 e1) (oU (oU e1 e0) (oU e1 e2))))
noncomputable def Eu(c:Nat)(xs:List Nat):List Nat:=(hC c).filter (A3 (Bg xs))
noncomputable def Fs(c:Nat)(xs:List Nat):List Nat:=eI (Nat.beq c 0) (A3 xs 21) (A3 xs 20) (Nat.beq c 1) (A3 xs 11) (A3 xs 19) (A3 xs 18) (Nat.blt 0 (xs.filter Ht).length) (Nat.beq (xs.filter Ht).length xs.length) (isT c)
 (Nat.beq (xs.filter Y1).length xs.length) (Nat.beq (Eu c xs).length 0) (isO c) (Nat.blt 0 (Eu c xs).length) (Nat.beq c 11) (hC c) (Eu c xs) [9,10,11,12,13] []
theorem Kv{α:Type}{g:α→PyData}{l:List α}(n:Nat):decide ((Int.ofNat n) <((l.map g).length:Int))=Nat.blt n l.length:=by
 rw[List.length_map,Bool.eq_iff_iff,decide_eq_true_iff,Nat.blt_eq]
 exact Int.ofNat_lt
theorem aQ{α β:Type}{g:α→PyData}{g':β→PyData}{l:List α}{m:List β}:PyData.eqv (.int ((l.map g).length:Int)) (.int ((m.map g').length:Int))=Nat.beq l.length m.length:=by
 have:=Ia (g:=g) (l:=l) m.length
 rw[List.length_map (as:=m)]
 exact this
noncomputable def A61(c t:Nat)(tw:Bool)(xs:List Nat):A1:=[("sort",.val,.d (sD c)),("held",.val,.d (F2 (hC c))),("ask",.val,.d (A99 t tw xs)),("names",.val,.d (.list (xs.map C6)))]
noncomputable def B93(k:Kd):Bool:=match k with
 |.al _=>true
 |_=>false
noncomputable def Yd(c:Nat)(xs:List Nat)(e:Nat→Bool):PyData×Kd:=eI (e 0) (e 1) (e 2) (e 3) (e 4) (e 5) (e 6) (e 7) (e 8) (e 9) (e 10) (e 11) (e 12) (e 13) (e 14) (F2 (hC c),.cl) (.list ((Eu c xs).map iN),.fr) (F2 [9,10,11,12,13],.cl) (.tuple [],.cl)
noncomputable def eH(c:Nat)(xs:List Nat):Nat→Bool:=bs [Nat.beq c 0,A3 xs 21,A3 xs 20,Nat.beq c 1,A3 xs 11,A3 xs 19,A3 xs 18,Nat.blt 0 (xs.filter Ht).length,Nat.beq (xs.filter Ht).length xs.length,isT c,Nat.beq (xs.filter Y1).length xs.length,Nat.beq (Eu c xs).length 0,isO c,Nat.blt 0 (Eu c xs).length,Nat.beq c 11]
theorem A85(c:Nat)(xs:List Nat):B93 (Yd c xs (eH c xs)).2=false∧Lm (Yd c xs (eH c xs)).1=some ((Fs c xs).map iN):=by
 constructor
 ·exact(Gg (g:=λp:PyData×Kd=>B93 p.2) rfl rfl rfl rfl).trans (Gg (g:=λη:Bool=>false) (h:=true) (f:=true) (t:=true) (n:=true) rfl rfl rfl rfl).symm
 ·exact(Gg (g:=λp:PyData×Kd=>Lm p.1) rfl rfl rfl rfl).trans (Gg (g:=λl=>some (List.map iN l)) (h:=hC c) (f:=Eu c xs) (t:=[9,10,11,12,13]) (n:=[]) rfl rfl rfl rfl).symm
section
variable(k:Nat){σ:Sg}
theorem nA{c t:Nat}{xs:List Nat}{tw:Bool}(hc:c<38)(hx:∀x∈xs,x<22):
  (cx (k+2)).call "_law_cut" [(.d (sD c),.cl),(.d (F2 (hC c)),.cl),(.d (A99 t tw xs),.cl)] σ=some ((.d (Yd c xs (eH c xs)).1,(Yd c xs (eH c xs)).2),σ):=by
 have hx23:∀x∈xs,x<23:=λx h=>Nat.lt_succ_of_lt (hx x h)
 have nm:∀{x},x<23→Cp .In (.d (C6 x)) (.d (.list (xs.map C6))) σ=some (A3 xs x):=Y0 hx23
 have sq:=λ{s f}=>C53 (σ:=σ) hc (s:=s) (f:=f)
 have ge:=Kv (g:=C6) (l:=xs.filter Ht) 0
 exact xFt (.b 0 (.b 1 (.b 2 (.b 3 (.b 9 (.b 12 (.b 14 .l (.b 7 (.b 6 (.b 5 .l .l) .l) .l)) (.b 13 .l .l)) (.b 10 (.b 11 .l .l) .l)) (.b 4 (.b 5 (.b 6 (.b 7 .l (.b 8 .l .l)) .l) .l) .l)) .l) .l) .l) (en:=eH c xs) (r:=λe=>(.d (Yd c xs e).1,(Yd c xs e).2)) (σ':=λη=>σ)
  [.d 822007020 0 (sq (s:="any") (f:=λc=>Nat.beq c 0) (by decide +kernel) (by decide +kernel)),.d 822024038 1 (nm (by decide)),.d 822042060 2 (nm (by decide)),
   .k (xK "_law_cut" 824013050 (σ:=σ) (l:=A61 c t tw xs) [] (by kernel_rfl) (by kernel_rfl) (Fo.flt (hC c) (p:=A3 (Bg xs)) (i:=iN) (f:=iN) λv η=>Ze (.b 0 .l .l) (en:=bs [A3 (Bg xs) v]) (σ':=λη=>σ) (y:=λe=>cond (e 0) (some (iN v)) none) [.d 824033049 0 (Rh (σ:=σ))] λη=>by kernel_rfl)),
   .k (xK "_law_cut" 825013078 (σ:=σ) (l:=A61 c t tw xs++([("common",.own,.d (.list ((Eu c xs).map iN)))]:A1)) [] (by kernel_rfl) (by kernel_rfl) (Fo.flt xs (p:=Ht) (i:=C6) (f:=C6) λv hv=>Ze (.b 0 .l .l) (en:=bs [Ht v]) (σ':=λη=>σ) (y:=λe=>cond (e 0) (some (C6 v)) none) [.d 825040077 0 (B94 (σ:=σ) (hx23 v hv))] λη=>by kernel_rfl)),
   .d 826007024 3 (sq (s:="unknown") (f:=λc=>Nat.beq c 1) (by decide +kernel) (by decide +kernel)),.d 827011026 4 (nm (by decide)),.d 827030042 5 (nm (by decide)),.d 827046059 6 (nm (by decide)),.g 829011026 7 ge,.g 830034059 8 (aQ (g:=C6) (g':=C6) (l:=xs.filter Ht) (m:=xs)),.d 832007018 9 (sq (s:="T") (f:=isT) (by decide +kernel) (by decide +kernel)),
   .k (xK "_law_cut" 833018083 (σ:=σ) (l:=A61 c t tw xs++([("common",.own,.d (.list ((Eu c xs).map iN))),("things",.own,.d (.list ((xs.filter Ht).map C6)))]:A1)) [] (by kernel_rfl) (by kernel_rfl) (Fo.flt xs (p:=Y1) (i:=C6) (f:=C6) λv hv=>Ze (.b 0 .l .l) (en:=bs [Y1 v]) (σ':=λη=>σ) (y:=λe=>cond (e 0) (some (C6 v)) none) [.d 833045082 0 (Xy (σ:=σ) (hx23 v hv) (by decide +kernel) (eq_of_beq (Be (by decide +kernel:((List.range 23).all λx=>([PyData.str "undefined",.str "null",.str "void"].any λy=>PyData.eqv y (C6 x))==Y1 x)=true) v (En (hx23 v hv)))))] λη=>by kernel_rfl)),
   .g 834025051 10 (aQ (g:=C6) (g':=C6) (l:=xs.filter Y1) (m:=xs)),.g 834055071 11 (Ia (g:=iN) (l:=Eu c xs) 0),.d 835007023 12 (sq (s:="object") (f:=isO) (by decide +kernel) (by decide +kernel)),.g 836023038 13 (Kv (g:=iN) (l:=Eu c xs) 0),.d 837007019 14 (sq (s:="{}") (f:=λc=>Nat.beq c 11) (by decide +kernel) (by decide +kernel)),.g 837025040 7 ge,.d 837044057 6 (nm (by decide)),.d 837061073 5 (nm (by decide))] λe=>by kernel_rfl
end
end
section
open PySem
noncomputable def Bv(b:Nat→Bool)(c:Nat):List Nat:=match(Nat.beq c 1||Nat.beq c 21)&&(b 0||b 1)with
 |true=>(match Nat.beq c 1 with|true=>11|false=>34)::(([0,1].filter λv=>!b v).map λv=>match Nat.beq c 1 with|true=>4+v|false=>36-v)
 |false=>match !Bf c||(Nat.blt 1 (hC c).length|| !b ((hC c).getD 0 0))with
  |true=>[c]
  |false=>[]
theorem Cz{c:Nat}(h:c<38):(hC c).Pairwise (· <·)∧∀v∈hC c,v<14:=(by decide +kernel:∀c<38,(hC c).Pairwise (· <·)∧∀v∈hC c,v<14) c h
noncomputable def B0(us:List Int)(v:Nat):Bool:=us.any λu=>u==Int.ofNat v
noncomputable def O4(i:Int):PyData:=.int i
noncomputable def Bo(a:Bi):Int:=Ji (o3 a) (Bg a.2.2)
noncomputable def F8(src:List Nat)(hs:List Bi):List Nat:=src.flatMap λc=>hs.flatMap λa=>Fs c a.2.2
noncomputable def Br(cs:List Nat)(ms:List Bi):List Nat:=cs.flatMap (Bv (B0 (ms.map Bo)))
noncomputable def mV(d:Bool)(cs:List Nat)(ms hs:List Bi):List Nat:=(List.range 14).filter (A3 (match d with
 |true=>F8 cs hs++(Br cs ms).flatMap hC
 |false=>F8 (Br cs ms) hs))
noncomputable def aS(a:Bi):CS:=lS (o3 a)
theorem Y2(a b:Nat):PyData.eqv (iN a) (.int (Int.ofNat b))=Nat.beq a b:=by
 show(Int.ofNat a==Int.ofNat b)=Nat.beq a b
 rw[Bool.eq_iff_iff,beq_iff_eq]
 exact⟨λe=>by rw[Int.ofNat.inj e];exact Nat.beq_refl b,λe=>by rw[Bu e]⟩
noncomputable def HS(S:CS):List Nat:=(List.range 14).filter λv=>Bx S λc=>A3 (hC c) v
noncomputable def Gd(v:Nat)(a:Bi):Bool:=(Bg a.2.2==[v])||(Bg a.2.2==[])
noncomputable def I0(d:Bool)(ms hs:List Bi)(v:Nat):Bool:=
 let m:=Nat.blt 0 (hs.filter λa=>A3 (Bg a.2.2) v).length
 let z:=Nat.beq (ms.filter (Gd v)).length 0
 match d with
 |true=>m||z
 |false=>m&&z
theorem Bc.tst{ext:List PyData}{a:Bi}(h:Bc ext a):Kh ext a.1 (aS a):=by
 obtain⟨f1,f2,f3⟩:=Fx (tw:=a.2.1) h.lt h.len
 exact⟨_,h.kd,f1,f3,(J3 f3).symm,by unfold aS o3;rw[← fR h.lt h.len];exact Fw _⟩
end
section
open PySem
theorem I9{f g:Nat→CS}{S:CS}:lift f (lift g S)=lift (λc=>lift f (g c)) S:=by
 funext e
 rw[Bool.eq_iff_iff]
 simp only[Al]
 constructor
 ·intro HH
  refine Ac λXz hXz=>?_
  obtain⟨d,hd,⟨c,hc,h1,h2⟩,h3⟩:=HH
  refine hXz ?_
  exact⟨c,hc,h1,d,hd,h2,h3⟩
 ·intro HH
  refine Ac λXz hXz=>?_
  obtain⟨c,hc,h1,d,hd,h2,h3⟩:=HH
  refine hXz ?_
  exact⟨d,hd,⟨c,hc,h1,h2⟩,h3⟩
theorem Ak{f:Nat→CS}{c:Nat}(h:c<38):lift f (one c)=f c:=by
 funext e
 rw[Bool.eq_iff_iff,Al]
 constructor
 ·rintro⟨d,_,h1,h2⟩
  rw[Bu h1];exact h2
 ·exactλh2=>⟨c,h,Nat.beq_refl c,h2⟩
theorem Ku{f:Nat→CS}:lift f Eo=Eo:=by
 funext e
 rw[Bool.eq_iff_iff,Al]
 exact⟨λ⟨_,_,h,_⟩=>(by cases h),λh=>(by cases h)⟩
noncomputable def Lo(S:CS):Prop:=∀c,38≤c→S c=false
theorem Ms{S:CS}(h:Lo S):lift one S=S:=by
 funext e
 rw[Bool.eq_iff_iff,Al]
 constructor
 ·rintro⟨d,_,h1,h2⟩
  rw[← Bu h2];exact h1
 ·intro h2
  refine⟨e,?_,h2,Nat.beq_refl e⟩
  apply Nat.lt_of_not_le
  intro q
  rw[h e q]at h2
  cases h2
theorem Me{a b:Nat}(h:a≠b):Nat.beq a b=false:=by
 cases q:Nat.beq a b with
 |false=>rfl
 |true=>exact absurd (Bu q) h
theorem Y3{n c:Nat}(hn:n<38)(hc:38≤c):Nat.beq n c=false:=Me (Nat.ne_of_lt (Nat.lt_of_lt_of_le hn hc))
theorem Lo.one{c:Nat}(h:c<38):Lo (one c):=λd hd=>Y3 h hd
theorem Lo.lift{f:Nat→CS}{S:CS}(h:∀c,c<38→S c=true→Lo (f c)):Lo (lift f S):=by
 intro e he
 cases q:Mine.lift f S e with
 |false=>rfl
 |true=>
  obtain⟨c,hc,h1,h2⟩:=Al.mp q
  rw[h c hc h1 e he]at h2
  cases h2
theorem Lo.N{S:CS}(h:Lo S):Lo (N S):=by
 intro c hc
 have hj:A7 S c=false:=by
  unfold A7
  rw[h c hc,Y3 (by decide) hc,Y3 (by decide) hc];rfl
 unfold Mine.N
 rw[hj]
 cases S 0 with
 |true=>exact Y3 (by decide) hc
 |false=>cases S 1 with
  |true=>exact Y3 (by decide) hc
  |false=>rfl
theorem R.lo{ext:List PyData}{t:Nat}{S:CS}(h:R ext t S):Lo S:=by
 obtain⟨ps,hK,rfl⟩:=h.ids
 intro c hc
 cases q:A9 ext ps c with
 |false=>rfl
 |true=>exact absurd (b8 hK.pts q) (Nat.not_lt.mpr hc)
noncomputable def By(A B:CS):CS:=λc=>A c||B c
theorem Lg(A:CS)(Bs:List CS):B5 (A::Bs)=By A (B5 Bs):=rfl
theorem Qd(Bs:List CS)(A:CS):B5 (Bs++[A])=By A (B5 Bs):=by
 funext c
 rw[Vz,o8]
 exact Bool.or_comm _ _
theorem Wd{S:CS}{c:Nat}(h:N S c=true)(h0:S 0=false)(h1:S 1=false):A7 S c=true:=by
 rw[E0 h0 h1]at h
 exact(Ab h).1
theorem yK{l:List Int}{c d:Nat}(h:l.getD c (-1)=Int.ofNat d):c<l.length:=Nat.lt_of_not_le λq=>by
 rw[List.getD_eq_getElem?_getD,List.getElem?_eq_none q]at h
 exact nomatch h
noncomputable def D01(x:Int)(f:Nat→Bool):Bool:=match x with
 |.ofNat d=>f d
 |_=>true
theorem gK{l:List Int}{f:Nat→Nat→Bool}{c d:Nat}(k:((List.range l.length).all λc=>D01 (l.getD c (-1)) (f c))=true)(h:l.getD c (-1)=Int.ofNat d):f c d=true:=by
 have z:=Be k c (En (yK h))
 rw[h]at z
 exact z
theorem w1(c d:Nat)(h:Ik c=Int.ofNat d):Ik d= -1∧Hj c=Hj d∧d≠0∧d≠1:=
 of_decide_eq_true (gK (f:=λc d=>decide (Ik d= -1∧Hj c=Hj d∧d≠0∧d≠1)) (by decide +kernel) h)
theorem vW(c d:Nat)(h:Hj c=Int.ofNat d):Ik d= -1∧Hj d= -1∧(d=6∨d=7):=
 of_decide_eq_true (gK (f:=λc d=>decide (Ik d= -1∧Hj d= -1∧(d=6∨d=7))) (by decide +kernel) h)
theorem Ov{S:CS}(h:S 0=true):N S=one 0:=by funext c;unfold N;rw[h];rfl
theorem M9{S:CS}(h0:S 0=false)(h:S 1=true):N S=one 1:=by funext c;unfold N;rw[h0,h];rfl
theorem Di{A B:CS}{c:Nat}:By A B c=(A c||B c):=rfl
theorem or4{a b c d:Bool}:((a||c)||(b||d))=((a||b)||(c||d)):=(by decide:∀a b c d:Bool,((a||c)||(b||d))=((a||b)||(c||d))) a b c d
theorem jin{X:CS}{c:Nat}(h:X c=true):A7 X c=true:=by
 unfold A7
 rw[h]
 rfl
theorem j14(X:CS):A7 X 14=X 14:=Bool.or_false _
theorem j15(X:CS):A7 X 15=X 15:=Bool.or_false _
section
variable{A B X Y:CS}{c:Nat}
theorem C82(h:∀c,X c=true→A7 Y c=true)(q:((X 8||X 14)&&(X 9||X 15))=true):((Y 8||Y 14)&&(Y 9||Y 15))=true:=
 (by decide +kernel:∀a b c d a' b' c' d':Bool,(a=true→(a'||(true||false)&&((a'||b')&&(c'||d')))=true)→(b=true→b'=true)→(c=true→(c'||(false||true)&&((a'||b')&&(c'||d')))=true)→(d=true→d'=true)→((a||b)&&(c||d))=true→((a'||b')&&(c'||d'))=true) _ _ _ _ _ _ _ _ (h 8) (j14 Y▸h 14) (h 9) (j15 Y▸h 15) q
theorem kT(h:∀c,X c=true→A7 Y c=true)(hc:A7 X c=true):A7 Y c=true:=
 (Ho hc).elim (h c) λhc=>have e:=Ab hc
  Bool.or_eq_true_iff.mpr (.inr (Yx ⟨e.1,C82 h e.2⟩))
theorem Po(h:B c=true):By A B c=true:=Bool.or_eq_true_iff.mpr (.inr h)
theorem Pp(h:A c=true):By A B c=true:=Bool.or_eq_true_iff.mpr (.inl h)
theorem j_A(h:A7 A c=true):A7 (By A B) c=true:=kT (λη h=>jin (Pp h)) h
theorem A19(a0:A 0=false)(a1:A 1=false)(h:A7 (By (N A) B) c=true):A7 (By A B) c=true:=kT (λc h=>(Ho h).elim (λh=>j_A (Wd h a0 a1)) λh=>jin (Po h)) h
theorem n_A(a0:A 0=false)(a1:A 1=false)(h:A c=true)(h1:E4 (A7 (By A B)) (Ik c)=false)(h2:E4 (A7 (By A B)) (Hj c)=false):A7 (By (N A) B) c=true:=
 jin (Pp ((E0 a0 a1 c).trans (by rw[jin h,Fj (λη=>j_A) _ h1,Fj (λη=>j_A) _ h2];rfl)))
theorem C79(a0:A 0=false)(a1:A 1=false)(q:((By A B 8||By A B 14)&&(By A B 9||By A B 15))=true):((By (N A) B 8||By (N A) B 14)&&(By (N A) B 9||By (N A) B 15))=true:=by
 have e14:N A 14=(A7 A 14&&(!A7 A 8&&true)):=E0 a0 a1 14
 have e15:N A 15=(A7 A 15&&(!A7 A 9&&true)):=E0 a0 a1 15
 rw[j14]at e14
 rw[j15]at e15
 rw[Di,Di,Di,Di]at q⊢
 rw[(E0 a0 a1 8).trans (Bool.and_true _),(E0 a0 a1 9).trans (Bool.and_true _),e14,e15]
 exact(by decide +kernel:∀a b c d a' b' c' d':Bool,((a||a'||(b||b'))&&(c||c'||(d||d')))=true→(((a||(true||false)&&((a||b)&&(c||d)))||a'||((b&&(!(a||(true||false)&&((a||b)&&(c||d)))&&true))||b'))&&((c||(false||true)&&((a||b)&&(c||d)))||c'||((d&&(!(c||(false||true)&&((a||b)&&(c||d)))&&true))||d')))=true) _ _ _ _ _ _ _ _ q
theorem jK(a0:A 0=false)(a1:A 1=false)(h1:E4 (A7 (By A B)) (Ik c)=false)(h2:E4 (A7 (By A B)) (Hj c)=false)(h:A7 (By A B) c=true):A7 (By (N A) B) c=true:=
 (Ho h).elim (λh=>(Ho h).elim (λh=>n_A a0 a1 h h1 h2) λh=>jin (Po h)) λh=>have q:=Ab h
  Bool.or_eq_true_iff.mpr (.inr (Yx ⟨q.1,C79 a0 a1 q.2⟩))
theorem lO{k:Int}(h:E4 X k=false)(z:∀x,k=Int.ofNat x→Y x=true→X x=true):E4 Y k=false:=by
 cases k with
 |negSucc n=>rfl
 |ofNat x=>exact oT λq=>Bool.noConfusion (h.symm.trans (z x rfl q))
theorem B23(a0:A 0=false)(a1:A 1=false)(h:E4 (A7 (By (N A) B)) (Hj c)=false):E4 (A7 (By A B)) (Hj c)=false:=
 lO h λx e q=>have t:=vW c x e
  jK a0 a1 (by rw[t.1];rfl) (by rw[t.2.1];rfl) q
theorem C45(a0:A 0=false)(a1:A 1=false)(h2:E4 (A7 (By (N A) B)) (Ik c)=false)(h:E4 (A7 (By (N A) B)) (Hj c)=false):E4 (A7 (By A B)) (Ik c)=false:=
 lO h2 λx e q=>have t:=w1 c x e
  jK a0 a1 (by rw[t.1];rfl) (t.2.1▸B23 a0 a1 h) q
theorem C33(a0:A 0=false)(a1:A 1=false)(b0:B 0=false)(b1:B 1=false):N (By (N A) B)=N (By A B):=by
 have o:∀{x y:Bool},x=false→y=false→(x||y)=false:=λh k=>Bool.or_eq_false_iff.mpr ⟨h,k⟩
 have j0:N A 0=false:=oT λh=>Bool.noConfusion (a0.symm.trans ((Bool.or_false _).symm.trans (Wd h a0 a1)))
 have j1:N A 1=false:=oT λh=>Bool.noConfusion (a1.symm.trans ((Bool.or_false _).symm.trans (Wd h a0 a1)))
 funext c
 rw[E0 (o j0 b0) (o j1 b1),E0 (o a0 b0) (o a1 b1),Bool.eq_iff_iff]
 simp only[Bool.and_eq_true,Bool.not_eq_true']
 exact⟨λh=>⟨A19 a0 a1 h.1,C45 a0 a1 h.2.1 h.2.2,B23 a0 a1 h.2.2⟩,λh=>⟨jK a0 a1 h.2.1 h.2.2 h.1,Fj (λη=>A19 a0 a1) _ h.2.1,Fj (λη=>A19 a0 a1) _ h.2.2⟩⟩
theorem Ox(A B:CS):N (By (N A) B)=N (By A B):=by
 cases a0:A 0 with
 |true=>rw[Ov (Pp a0),Ov (Pp ((congrFun (Ov a0) 0).trans rfl))]
 |false=>
  cases b0:B 0 with
  |true=>rw[Ov (Po b0),Ov (Po b0)]
  |false=>cases a1:A 1 with
   |true=>rw[M9 (Bool.or_eq_false_iff.mpr ⟨a0,b0⟩) (Pp a1),M9 (Bool.or_eq_false_iff.mpr ⟨congrFun (M9 a0 a1) 0,b0⟩) (Pp ((congrFun (M9 a0 a1) 1).trans rfl))]
   |false=>cases b1:B 1 with
    |true=>rw[M9 (Bool.or_eq_false_iff.mpr ⟨a0,b0⟩) (Po b1),M9 (Bool.or_eq_false_iff.mpr ⟨oT λh=>Bool.noConfusion (a0.symm.trans ((Bool.or_false _).symm.trans (Wd h a0 a1))),b0⟩) (Po b1)]
    |false=>exact C33 a0 a1 b0 b1
end
theorem y0{S:CS}{P:Nat→Bool}(hl:Lo S)(h0:S 0=false)(h1:S 1=false)(tw:∀c d,c<38→Ik c=Int.ofNat d→P c=true→P d=true)(wh:∀c d,c<38→Hj c=Int.ofNat d→P c=true→P d=true)(p8:P 8=P 14)(p9:P 9=P 15):Bx (N S) P=Bx S P:=by
 have iff:∀{X:CS},Bx X P=true↔∃c,c<38∧X c=true∧P c=true:=λ{X}=>by
  unfold Bx
  rw[List.any_eq_true]
  simp only[List.mem_range,Bool.and_eq_true]
 rw[Bool.eq_iff_iff,iff,iff]
 constructor
 ·rintro⟨c,hc,h,p⟩
  have h:=Wd h h0 h1
  rcases Ho h with h|h
  ·exact⟨c,hc,h,p⟩
  ·obtain⟨e1,e2⟩:=Ab h
   obtain⟨e2,e3⟩:=Ab e2
   rcases Ho e1 with e|e
   ·have e:=Bu e
    subst e
    rcases Ho e2 with q|q
    ·exact⟨8,by decide,q,p⟩
    ·exact⟨14,by decide,q,p8▸p⟩
   ·have e:=Bu e
    subst e
    rcases Ho e3 with q|q
    ·exact⟨9,by decide,q,p⟩
    ·exact⟨15,by decide,q,p9▸p⟩
 ·have jin:∀c,S c=true→A7 S c=true:=λc h=>by unfold A7;rw[h];rfl
  have lt:∀c,A7 S c=true→c<38:=λc h=>by
   unfold A7 at h
   rcases Ho h with h|h
   ·apply Nat.lt_of_not_le
    intro q
    rw[hl c q]at h
    cases h
   ·rcases Ho (Ab h).1 with e|e<;>exact Bu e▸(by decide)
  rintro⟨c,hc,h,p⟩
  have h:=jin c h
  cases q1:E4 (A7 S) (Hj c)with
  |true=>
   cases e:Hj c with
   |negSucc n=>rw[e]at q1;cases q1
   |ofNat d=>
    rw[e]at q1
    obtain⟨t1,t2,_⟩:=vW c d e
    exact⟨d,lt d q1,by rw[E0 h0 h1,t1,t2];exact Yx ⟨q1,rfl⟩,wh c d hc e p⟩
  |false=>cases q2:E4 (A7 S) (Ik c)with
   |true=>
    cases e:Ik c with
    |negSucc n=>rw[e]at q2;cases q2
    |ofNat d=>
     rw[e]at q2
     obtain⟨t1,t2,_⟩:=w1 c d e
     rw[t2]at q1
     exact⟨d,lt d q2,by rw[E0 h0 h1,t1,q1];exact Yx ⟨q2,rfl⟩,tw c d hc e p⟩
   |false=>exact⟨c,hc,by rw[E0 h0 h1,h,q1,q2];rfl,p⟩
end
section
open PySem
theorem Nm.sub{S T:CS}(h:Nm S)(le:∀c,T c=true→S c=true):Nm T:=by
 have hS:N S=S:=h
 show N T=T
 have hle:∀{c},S c=false→T c=false:=λ{c} e=>by
  cases q:T c with
  |false=>rfl
  |true=>rw[le c q]at e;cases e
 cases t0:T 0 with
 |true=>
  have:T=one 0:=by
   have hs:=h.top0 (le 0 t0)
   funext c
   cases q:T c with
   |true=>have:=le c q;rw[hs]at this;exact this.symm
   |false=>
    cases e:one 0 c with
    |false=>rfl
    |true=>rw[← Bu e,t0]at q;cases q
  rw[this,B11]
 |false=>
  cases s0:S 0 with
  |true=>
   have hs:=h.top0 s0
   have:T=λη=>false:=by
    funext c
    cases q:T c with
    |false=>rfl
    |true=>
     have e:=le c q
     rw[hs]at e
     rw[← Bu e,t0]at q
     cases q
   rw[this]
   funext c
   unfold N A7 E4
   cases Ik c<;>cases Hj c<;>simp
  |false=>
   cases t1:T 1 with
   |true=>
    have:T=one 1:=by
     have hs:=h.top1 s0 (le 1 t1)
     funext c
     cases q:T c with
     |true=>have:=le c q;rw[hs]at this;exact this.symm
     |false=>
      cases e:one 1 c with
      |false=>rfl
      |true=>rw[← Bu e,t1]at q;cases q
    rw[this,B10]
   |false=>
    cases s1:S 1 with
    |true=>
     have hs:=h.top1 s0 s1
     have:T=λη=>false:=by
      funext c
      cases q:T c with
      |false=>rfl
      |true=>
       have e:=le c q
       rw[hs]at e
       rw[← Bu e,t1]at q
       cases q
     rw[this]
     funext c
     unfold N A7 E4
     cases Ik c<;>cases Hj c<;>simp
    |false=>
     have hN:=E0 s0 s1
     rw[hS]at hN
     have hJ:∀c,S c=true→A7 S c=true:=λc e=>by unfold A7;rw[e];rfl
     have hj:A7 T=T:=by
      funext c
      unfold A7
      cases q:(T 8||T 14)&&(T 9||T 15)with
      |false=>rw[Bool.and_false,Bool.or_false]
      |true=>
       obtain⟨a1,a2⟩:=Ab q
       have b1:(S 8||S 14)=true:=by rcases Ho a1 with e|e<;>rw[le _ e]<;>simp
       have b2:(S 9||S 15)=true:=by rcases Ho a2 with e|e<;>rw[le _ e]<;>simp
       have j8:A7 S 8=true:=by unfold A7;rw[b1,b2];simp
       have j9:A7 S 9=true:=by unfold A7;rw[b1,b2];simp
       have s14:S 14=false:=by rw[hN 14];show(A7 S 14&&(!A7 S 8&&_))=false;rw[j8];simp
       have s15:S 15=false:=by rw[hN 15];show(A7 S 15&&(!A7 S 9&&_))=false;rw[j9];simp
       rw[hle s14,Bool.or_false]at a1
       rw[hle s15,Bool.or_false]at a2
       cases q8:Nat.beq 8 c with
       |true=>rw[← Bu q8,a1];rfl
       |false=>cases q9:Nat.beq 9 c with
        |true=>rw[← Bu q9,a2];rfl
        |false=>exact Bool.or_false _
     funext c
     rw[E0 t0 t1,hj]
     cases q:T c with
     |false=>rfl
     |true=>
      have e:=le c q
      rw[hN c]at e
      obtain⟨_,e2⟩:=Ab e
      obtain⟨e2,e3⟩:=Ab e2
      have hTJ:∀c,T c=true→A7 S c=true:=λc e=>hJ c (le c e)
      rw[Fj hTJ _ (by simpa using e2),Fj hTJ _ (by simpa using e3)]
      rfl
noncomputable def nF(d c:Nat):CS:=match Nat.beq 0 c with
 |true=>one 0
 |false=>match Nat.beq 1 c&&Aj d with
  |true=>Fq d
  |false=>match Nat.beq 21 c&&Aj d with
   |true=>Ep (Jp d)
   |false=>Kf d c
theorem Gn{f:Nat→Bool}(h:((List.range 38).all f)=true){c:Nat}(hc:c<38):f c=true:=Be h c (En hc)
noncomputable def eqS(A B:CS):Bool:=(List.range 38).all λc=>A c==B c
theorem mT{A B:CS}(ha:Lo A)(hb:Lo B)(h:eqS A B=true):A=B:=by
 funext c
 by_cases hc:c<38
 ·exact eq_of_beq (Gn h hc)
 ·rw[ha c (Nat.not_lt.mp hc),hb c (Nat.not_lt.mp hc)]
theorem jX(d:Nat):Lo (Fq d):=by
 intro c hc
 unfold Fq
 have:Hn d<38:=by unfold Hn;split<;>decide
 rw[Y3 this hc,Y3 (by decide) hc];rfl
theorem R8(U:CS):Lo (Ep U):=Lo.lift λc hc η=>Lo.one ((by decide +kernel:∀c<38,Dq c<38) c hc)
theorem K0:Lo Eo:=λη η=>rfl
theorem A04{d c:Nat}(h:c<38):Lo (Kf d c):=by
 unfold Kf
 split
 ·exact Lo.one h
 ·exact K0
theorem B71{d c:Nat}(h:c<38):Lo (nF d c):=by
 unfold nF
 repeat' split
 ·exact Lo.one (by decide)
 ·exact jX d
 ·exact R8 _
 ·exact A04 h
theorem Nm.high{S:CS}(h:Nm S)(h0:S 0=false)(h1:S 1=false):Nm (By S λc=>Nat.ble 34 c):=by
 have hS:N S=S:=h
 have h0':By S (λc=>Nat.ble 34 c) 0=false:=by rw[Di,h0];rfl
 have h1':By S (λc=>Nat.ble 34 c) 1=false:=by rw[Di,h1];rfl
 have low:∀c,c<34→By S (λc=>Nat.ble 34 c) c=S c:=λc hc=>by
  rw[Di]
  cases q:Nat.ble 34 c with
  |false=>exact Bool.or_false _
  |true=>exact absurd (Nat.ble_eq.mp q) (Nat.not_le.mpr hc)
 have hj:∀c,A7 (By S λc=>Nat.ble 34 c) c=(A7 S c||Nat.ble 34 c):=by
  intro c
  unfold A7
  rw[low 8 (by decide),low 14 (by decide),low 9 (by decide),low 15 (by decide),Di]
  cases S c<;>cases Nat.ble 34 c<;>simp
 have hh:∀x:Int,x<34→E4 (A7 (By S λc=>Nat.ble 34 c)) x=E4 (A7 S) x:=by
  intro x hx
  cases x with
  |negSucc n=>rfl
  |ofNat c=>
   have hc:c<34:=Int.ofNat_lt.mp hx
   show A7 (By S λc=>Nat.ble 34 c) c=A7 S c
   rw[hj]
   cases q:Nat.ble 34 c with
   |false=>exact Bool.or_false _
   |true=>exact absurd (Nat.ble_eq.mp q) (Nat.not_le.mpr hc)
 funext c
 rw[E0 h0' h1',hh _ (gC c),hh _ (fK c),hj]
 have hc:=congrFun hS c
 rw[E0 h0 h1]at hc
 rw[Di,← hc]
 cases q:Nat.ble 34 c with
 |false=>rw[Bool.or_false,Bool.or_false]
 |true=>
  have:=Nat.ble_eq.mp q
  have k:Ik c= -1∧Hj c= -1:=by
   unfold Ik Hj
   constructor<;>(rw[List.getD_eq_getElem?_getD,List.getElem?_eq_none this];rfl)
  rw[k.1,k.2,Bool.or_true,Bool.or_true];rfl
theorem C38{d:Nat}(h:Ai d=true):d<34:=B8 (C4 h)
theorem Fy{d:Nat}(h:Ai d=true)(h2:Aj d=true):d=4∨d=5:=(by decide +kernel:∀d∈A0,Ai d=true→Aj d=true→d=4∨d=5) d (C4 h) h h2
theorem Rd{d:Nat}(h:Ai d=true):F7 d 21=true∧F7 d 1=true∧F7 d 0=true:=(by decide +kernel:∀d∈A0,Ai d=true→F7 d 21=true∧F7 d 1=true∧F7 d 0=true) d (C4 h) h
theorem Ow(c:Nat)(h:c<38):N (one c)=one c:=by
 refine mT (Lo.N (Lo.one h)) (Lo.one h) ?_
 exact Gn (f:=λc=>eqS (N (one c)) (one c)) (by decide +kernel) h
theorem Uk{d:Nat}{S:CS}(hl:Lo S):lift (Kf d) S=λc=>S c&&F7 d c:=by
 funext e
 rw[Bool.eq_iff_iff,Al,Bool.and_eq_true]
 constructor
 ·rintro⟨c,_,h1,h2⟩
  unfold Kf at h2
  cases k:F7 d c with
  |true=>rw[k]at h2;rw[← Bu h2];exact⟨h1,k⟩
  |false=>rw[k]at h2;cases h2
 ·rintro⟨h1,h2⟩
  refine⟨e,?_,h1,by unfold Kf;rw[h2];exact Nat.beq_refl e⟩
  apply Nat.lt_of_not_le
  intro q
  rw[hl e q]at h1
  cases h1
theorem rP{d:Nat}{S:CS}(hu:Ai d=true)(hn:Nm S)(hl:Lo S):jA d S=lift (nF d) S:=by
 obtain⟨k21,k1,k0⟩:=Rd hu
 cases e0:S 0 with
 |true=>
  have hs:=hn.top0 e0
  subst hs
  rw[Ak (by decide)]
  have ek:Kw d (one 0)=one 0:=rfl
  unfold jA
  rw[ek]
  cases Aj d with
  |false=>rfl
  |true=>
   dsimp only
   rw[Ak (by decide)]
   exact Ow 0 (by decide)
 |false=>
  cases e1:S 1 with
  |true=>
   have hs:=hn.top1 e0 e1
   subst hs
   rw[Ak (by decide)]
   cases q:Aj d with
   |true=>
    have ek:Kw d (one 1)=Fq d:=by unfold Kw;rw[q];rfl
    have eF:nF d 1=Fq d:=by unfold nF;rw[q];rfl
    unfold jA
    rw[q,ek,eF]
    dsimp only
    have:lift (Ki d) (Fq d)=Fq d:=by
     refine mT (Lo.lift λc hc η=>?_) (jX d) ?_
     ·unfold Ki;split
      ·exact R8 _
      ·exact Lo.one hc
     ·rcases Fy hu q with rfl|rfl<;>decide +kernel
    rw[this,show N (Fq d)=Fq d from fW (Fy hu q)]
   |false=>
    have ek:Kw d (one 1)=N (lift (Kf d) (one 1)):=by unfold Kw;rw[q];rfl
    have eF:nF d 1=Kf d 1:=by unfold nF;rw[q];rfl
    unfold jA
    rw[q,ek,eF,Ak (by decide)]
    dsimp only
    unfold Kf
    exact(k1)▸Ow 1 (by decide)
  |false=>
   have hT:Nm (lift (Kf d) S):=by rw[Uk hl];exact hn.sub λc h=>(Ab h).1
   have ek:Kw d S=lift (Kf d) S:=by
    unfold Kw
    rw[e0,e1]
    exact hT
   unfold jA
   rw[ek]
   cases q:Aj d with
   |false=>
    refine Ds λc hc h=>?_
    unfold nF
    rw[q,Bool.and_false,Bool.and_false]
    cases q0:Nat.beq 0 c with
    |false=>rfl
    |true=>rw[← Bu q0,e0]at h;cases h
   |true=>
    dsimp only
    have hX:lift (Ki d) (lift (Kf d) S)=lift (nF d) S:=by
     rw[I9]
     refine Ds λc hc h=>?_
     unfold nF
     rw[q,Bool.and_true,Bool.and_true]
     cases q0:Nat.beq 0 c with
     |true=>rw[← Bu q0,e0]at h;cases h
     |false=>cases q1:Nat.beq 1 c with
      |true=>rw[← Bu q1,e1]at h;cases h
      |false=>
       dsimp only
       cases q2:Nat.beq 21 c with
       |true=>
        have:=Bu q2
        subst this
        unfold Kf
        exact(k21).symm▸Ak (by decide)
       |false=>
        unfold Kf
        cases F7 d c with
        |false=>exact Ku
        |true=>
         dsimp only
         rw[Ak hc]
         unfold Ki
         rw[q2]
    have hN:Nm (lift (Ki d) (lift (Kf d) S)):=by
     refine(hn.high e0 e1).sub λc h=>?_
     rw[Di]
     obtain⟨e,he,h1,h2⟩:=Al.mp h
     rw[Uk hl]at h1
     unfold Ki at h2
     cases q2:Nat.beq 21 e with
     |true=>
      rw[q2]at h2
      obtain⟨x,hx,h4,h3⟩:=Al.mp h2
      have k:=(by decide +kernel:∀x<38,Jp 4 x=true∨Jp 5 x=true→Nat.ble 34 (Dq x)=true) x hx
      rw[← Bu h3]
      rw[k (by rcases Fy hu q with rfl|rfl;exact .inl h4;exact .inr h4),Bool.or_true]
     |false=>rw[q2]at h2;rw[← Bu h2,(Ab h1).1];rfl
    rw[show N (lift (Ki d) (lift (Kf d) S))=lift (Ki d) (lift (Kf d) S)from hN,hX]
noncomputable def Do(d:Nat):Nat:=(hC d).getD 0 0
noncomputable def Fe(c:Nat):Nat:=match Xm [4,5,8,9,14,15,16,18,22,23,24,25,26,27,28,29,30,31,32,33,3,35,36] c with
 |true=>(hC c).getD 0 0
 |false=>99
theorem kO{d c:Nat}(hu:Ai d=true)(hc:c<38):F7 d c= !Nat.beq (Fe c) (Do d):=by
 have k:(A0.all λd=>!Ai d||(List.range 38).all λc=>F7 d c== !Nat.beq (Fe c) (Do d))=true:=by decide +kernel
 have k:=Be k d (C4 hu)
 rw[hu]at k
 have k:((List.range 38).all λc=>F7 d c== !Nat.beq (Fe c) (Do d))=true:=k
 exact eq_of_beq (Gn k hc)
noncomputable def Dm(b:Bool)(c:Nat):CS:=match b with
 |true=>Eo
 |false=>one c
noncomputable def gF(b:Nat→Bool)(c:Nat):CS:=match Nat.beq 1 c&&(b 0||b 1)with
 |true=>By (one 11) (By (Dm (b 0) 4) (Dm (b 1) 5))
 |false=>match Nat.beq 21 c&&(b 0||b 1)with
  |true=>By (one 34) (By (Dm (b 0) 36) (Dm (b 1) 35))
  |false=>Dm (b (Fe c)) c
noncomputable def E6(U:CS):Nat:=match E1 U with
 |some d=>Do d
 |none=>98
noncomputable def Jg(Us:List CS):Nat→Bool:=λv=>Nat.blt v 14&&Us.any λU=>Nat.beq (E6 U) v
end
section
open PySem
theorem F6{f:Nat→CS}{A B:CS}:lift f (By A B)=By (lift f A) (lift f B):=by
 funext e
 rw[Di,Bool.eq_iff_iff,Bool.or_eq_true,Al,Al,Al]
 constructor
 ·intro HH
  refine Ac λXz hXz=>?_
  obtain⟨c,hc,h,h2⟩:=HH
  refine hXz ?_
  rcases Ho h with h|h
  ·exact .inl ⟨c,hc,h,h2⟩
  ·exact .inr ⟨c,hc,h,h2⟩
 ·rintro(⟨c,hc,h,h2⟩|⟨c,hc,h,h2⟩)
  ·exact⟨c,hc,by rw[Di,h];rfl,h2⟩
  ·exact⟨c,hc,by rw[Di,h,Bool.or_true],h2⟩
theorem kD{f:Nat→CS}{b:Bool}{c:Nat}(h:c<38):lift f (Dm b c)=match b with
  |true=>Eo
  |false=>f c:=by
 cases b with
 |true=>exact Ku
 |false=>exact Ak h
theorem U3{A:CS}:By A Eo=A:=funext λc=>Bool.or_false _
theorem B64{A:CS}:By Eo A=A:=funext λc=>Bool.false_or _
theorem Uh{A B:CS}(ha:Lo A)(hb:Lo B):Lo (By A B):=λc hc=>by rw[Di,ha c hc,hb c hc];rfl
theorem Np{b:Bool}{c:Nat}(h:c<38):Lo (Dm b c):=by
 cases b
 ·exact Lo.one h
 ·exact K0
theorem B72{b:Nat→Bool}{c:Nat}(h:c<38):Lo (gF b c):=by
 unfold gF
 repeat' split
 ·exact Uh (Lo.one (by decide)) (Uh (Np (by decide)) (Np (by decide)))
 ·exact Uh (Lo.one (by decide)) (Uh (Np (by decide)) (Np (by decide)))
 ·exact Np h
theorem E5{b:Nat→Bool}{c:Nat}(h1:Nat.beq 1 c=false)(h2:Nat.beq 21 c=false):gF b c=Dm (b (Fe c)) c:=by
 unfold gF;rw[h1,h2];rfl
theorem L6{b:Nat→Bool}(h:b 99=false):gF b 11=one 11∧gF b 34=one 34:=by
 constructor<;>(rw[E5 rfl rfl];exact(congrArg (λx=>Dm x _) h))
theorem fV(d:Nat):Fq d=By (one (Hn d)) (one 11):=by
 funext c
 unfold Fq By one
 rw[Bool.or_false]
theorem s5(d:Nat):Ep (Jp d)=By (one (Dq (Hn d))) (one 34):=by
 have:Jp d=By (one (Hn d)) (one 11):=fV d
 have hr:Hn d<38:=by unfold Hn;split<;>decide
 unfold Ep
 rw[this,F6,Ak hr,Ak (by decide)];rfl
theorem fQ{d:Nat}(h:Ai d=true):Do d<8:=(by decide +kernel:∀d∈A0,Ai d=true→Do d<8) d (C4 h) h
theorem fP{d:Nat}(h:Ai d=true)(h2:Aj d=false):Nat.beq 0 (Do d)=false∧Nat.beq 1 (Do d)=false:=(by decide +kernel:∀d∈A0,Ai d=true→Aj d=false→Nat.beq 0 (Do d)=false∧Nat.beq 1 (Do d)=false) d (C4 h) h h2
theorem mE{b:Nat→Bool}:gF b 1=cond (b 0||b 1) (By (one 11) (By (Dm (b 0) 4) (Dm (b 1) 5))) (Dm (b 99) 1):=by
 unfold gF
 cases b 0||b 1<;>rfl
theorem V5{b:Nat→Bool}:gF b 21=cond (b 0||b 1) (By (one 34) (By (Dm (b 0) 36) (Dm (b 1) 35))) (Dm (b 99) 21):=by
 unfold gF
 cases b 0||b 1<;>rfl
theorem uC{b:Nat→Bool}{v:Nat}(h0:Nat.beq 0 v=false)(h1:Nat.beq 1 v=false)(h9:Nat.beq 99 v=false):gF (λx=>b x||Nat.beq x v) 1=gF b 1∧gF (λx=>b x||Nat.beq x v) 21=gF b 21:=by
 rw[mE,mE,V5,V5,h0,h1,h9,Bool.or_false,Bool.or_false,Bool.or_false]
 exact⟨rfl,rfl⟩
theorem Y7{b:Nat→Bool}{d c:Nat}(hu:Ai d=true)(hc:c<38)(h1:Nat.beq 1 c=false)(h2:Nat.beq 21 c=false):lift (gF b) (Kf d c)=gF (λv=>b v||Nat.beq v (Do d)) c:=by
 rw[E5 (b:=λv=>b v||Nat.beq v (Do d)) h1 h2]
 unfold Kf
 rw[kO hu hc]
 cases Nat.beq (Fe c) (Do d)with
 |true=>rw[Bool.or_true];exact Ku
 |false=>rw[Bool.or_false];exact(Ak hc).trans (E5 h1 h2)
theorem zL(A:CS)(t:Nat):By A (one t)=By (one t) (By Eo A):=funext λc=>Bool.or_comm ..
theorem B60(A:CS)(t:Nat):By A (one t)=By (one t) (By A Eo):=(zL A t).trans (congrArg _ (funext λc=>Bool.or_comm ..))
theorem C07{b:Nat→Bool}{d:Nat}(hb:b 99=false)(hd:d=4∨d=5):lift (gF b) (Fq d)=gF (λv=>b v||Nat.beq v (Do d)) 1:=by
 rw[fV,F6,Ak (hd.elim (λe=>e▸(by decide)) λe=>e▸(by decide)),Ak (by decide),(L6 hb).1]
 rcases hd with rfl|rfl
 ·refine((congrArg (By · _) (E5 (c:=5) rfl rfl)).trans (zL _ 11)).trans (mE.trans ?_).symm
  rw[show(b 0||Nat.beq 0 (Do 4))=true from Bool.or_true _,show(b 1||Nat.beq 1 (Do 4))=b 1 from Bool.or_false _]
  rfl
 ·refine((congrArg (By · _) (E5 (c:=4) rfl rfl)).trans (B60 _ 11)).trans (mE.trans ?_).symm
  rw[show(b 0||Nat.beq 0 (Do 5))=b 0 from Bool.or_false _,show(b 1||Nat.beq 1 (Do 5))=true from Bool.or_true _,Bool.or_true]
  rfl
theorem A58{b:Nat→Bool}{d:Nat}(hb:b 99=false)(hd:d=4∨d=5):lift (gF b) (Ep (Jp d))=gF (λv=>b v||Nat.beq v (Do d)) 21:=by
 rw[s5,F6,Ak (hd.elim (λe=>e▸(by decide)) λe=>e▸(by decide)),Ak (by decide),(L6 hb).2]
 rcases hd with rfl|rfl
 ·refine((congrArg (By · _) (E5 (c:=35) rfl rfl)).trans (zL _ 34)).trans (V5.trans ?_).symm
  rw[show(b 0||Nat.beq 0 (Do 4))=true from Bool.or_true _,show(b 1||Nat.beq 1 (Do 4))=b 1 from Bool.or_false _]
  rfl
 ·refine((congrArg (By · _) (E5 (c:=36) rfl rfl)).trans (B60 _ 34)).trans (V5.trans ?_).symm
  rw[show(b 0||Nat.beq 0 (Do 5))=b 0 from Bool.or_false _,show(b 1||Nat.beq 1 (Do 5))=true from Bool.or_true _,Bool.or_true]
  rfl
theorem B66{d c:Nat}:nF d c=cond (Nat.beq 0 c) (one 0) (cond (Aj d) (cond (Nat.beq 1 c) (Fq d) (cond (Nat.beq 21 c) (Ep (Jp d)) (Kf d c))) (Kf d c)):=by
 unfold nF
 cases Nat.beq 0 c<;>cases Aj d<;>cases Nat.beq 1 c<;>cases Nat.beq 21 c<;>rfl
theorem Nj{d c:Nat}(h:F7 d c=true):Kf d c=one c:=by
 unfold Kf
 rw[h]
theorem uB{b:Nat→Bool}{d c:Nat}(hu:Ai d=true)(hc:c<38)(hb:b 99=false):lift (gF b) (nF d c)=gF (λv=>b v||Nat.beq v (Do d)) c:=by
 rw[B66]
 cases q0:Nat.beq 0 c with
 |true=>
  obtain rfl:=Bu q0
  exact Nj (Rd hu).2.2▸Y7 hu hc rfl rfl
 |false=>cases qn:Aj d with
  |true=>cases q1:Nat.beq 1 c with
   |true=>exact Bu q1▸C07 hb (Fy hu qn)
   |false=>cases q2:Nat.beq 21 c with
    |true=>exact Bu q2▸A58 hb (Fy hu qn)
    |false=>exact Y7 hu hc q1 q2
  |false=>
   have v:=fP hu qn
   have same:=uC (b:=b) v.1 v.2 (Me (Ne.symm (Nat.ne_of_lt (Nat.lt_trans (fQ hu) (by decide)))))
   cases q1:Nat.beq 1 c with
   |true=>
    obtain rfl:=Bu q1
    exact Nj (Rd hu).2.1▸(Ak hc).trans same.1.symm
   |false=>cases q2:Nat.beq 21 c with
    |true=>
     obtain rfl:=Bu q2
     exact Nj (Rd hu).1▸(Ak hc).trans same.2.symm
    |false=>exact Y7 hu hc q1 q2
theorem Zh{U:CS}{d:Nat}(e:E1 U=some d):Ai d=true:=N3 e
noncomputable def mF(U:CS)(c:Nat):CS:=match E1 U with
 |some d=>nF d c
 |none=>one c
theorem Ub{U S:CS}(hn:Nm S)(hl:Lo S):Jx U S=lift (mF U) S:=by
 unfold Jx mF
 cases e:E1 U with
 |some d=>exact rP (Zh e) hn hl
 |none=>exact(Ms hl).symm
theorem b99(Us:List CS):Jg Us 99=false:=rfl
theorem Gi:∀{Us:List CS}{S:CS},Nm S→Lo S→Ft Us S=lift (gF (Jg Us)) S
 |[],S,_,hl=>by
  rw[show Ft [] S=S from rfl]
  refine(Ms hl).symm.trans (Ds λc hc η=>?_)
  unfold gF
  rw[show Jg []=λη=>false from funext λv=>Bool.and_false _]
  simp only[Bool.or_false,Bool.and_false]
  rfl
 |U::Us,S,hn,hl=>by
  have hl2:Lo (Jx U S):=by
   rw[Ub hn hl]
   refine Lo.lift λc hc η=>?_
   unfold mF
   split
   ·exact B71 hc
   ·exact Lo.one hc
  show Ft Us (Jx U S)=_
  rw[Gi (R5 hn) hl2,Ub hn hl,I9]
  refine Ds λc hc η=>?_
  have hb:∀v,Jg (U::Us) v=(Jg Us v||(Nat.blt v 14&&Nat.beq (E6 U) v)):=by
   intro v
   unfold Jg
   rw[List.any_cons]
   cases Nat.blt v 14<;>cases Nat.beq (E6 U) v<;>cases(Us.any λU=>Nat.beq (E6 U) v)<;>rfl
  unfold mF
  cases e:E1 U with
  |some d=>
   have hu:=Zh e
   rw[uB hu hc (b99 Us)]
   congr 1
   funext v
   rw[hb]
   congr 1
   unfold E6
   rw[e]
   show Nat.beq v (Do d)=(Nat.blt v 14&&Nat.beq (Do d) v)
   rw[Bool.eq_iff_iff,Bool.and_eq_true,Nat.blt_eq]
   constructor
   ·intro h
    have h:=Bu h
    exact⟨h▸Nat.lt_trans (fQ hu) (by decide),by rw[h];exact Nat.beq_refl _⟩
   ·intro h
    rw[Bu h.2];exact Nat.beq_refl _
  |none=>
   rw[Ak hc]
   congr 1
   funext v
   rw[hb]
   unfold E6
   rw[e]
   cases q:Nat.blt v 14 with
   |false=>rw[Bool.false_and,Bool.or_false]
   |true=>
    rw[Me (a:=98) (Nat.ne_of_gt (Nat.lt_trans (Vp q) (by decide))),Bool.and_false,Bool.or_false]
noncomputable def hF(b:Nat→Bool)(c:Nat):CS:=match Nat.beq 3 c with
 |true=>one 3
 |false=>gF b c
theorem wS{b:Nat→Bool}{c:Nat}(h:c<38):Lo (hF b c):=by
 unfold hF
 split
 ·exact Lo.one (by decide)
 ·exact B72 h
theorem xA{b:Nat→Bool}{c e:Nat}(h:gF b c e=true)(h1:c≠1):e=c∨34≤e:=by
 unfold gF at h
 rw[Me (Ne.symm h1)]at h
 cases q:Nat.beq 21 c&&(b 0||b 1)with
 |true=>
  rw[q]at h
  right
  have key:∀c',34≤c'→one c' e=true→34≤e:=λc' h1 h2=>Bu h2▸h1
  refine Ac λXz hXz=>?_
  rcases Ho h with h|h
  ·refine hXz ?_
   exact key 34 (by decide) h
  ·refine hXz ?_
   rcases Ho h with h|h
   ·cases q2:b 0<;>rw[q2]at h
    ·exact key 36 (by decide) h
    ·cases h
   ·cases q2:b 1<;>rw[q2]at h
    ·exact key 35 (by decide) h
    ·cases h
 |false=>
  rw[q]at h
  cases q2:b (Fe c)with
  |true=>rw[q2]at h;cases h
  |false=>rw[q2]at h;exact .inl (Bu h).symm
theorem C00{b:Nat→Bool}{S:CS}(hn:Nm S)(h0:S 0=false)(h1:S 1=false):Nm (lift (hF b) S):=by
 refine(hn.high h0 h1).sub λe h=>?_
 obtain⟨c,hc,h2,h3⟩:=Al.mp h
 rw[Di]
 unfold hF at h3
 cases q:Nat.beq 3 c with
 |true=>rw[q]at h3;rw[← Bu h3,Bu q,h2];rfl
 |false=>
  rw[q]at h3
  rcases xA h3 (λe=>by rw[e,h1]at h2;cases h2)with rfl|h
  ·rw[h2];rfl
  ·rw[Sc h,Bool.or_true]
theorem Cv{Us:List CS}{S:CS}(hn:Nm S)(hl:Lo S):Bb Us S=lift (hF (Jg Us)) S:=by
 unfold Bb
 rw[Gi hn hl]
 cases q:S 3 with
 |false=>
  refine Ds λc hc h=>?_
  unfold hF
  rw[Me λe=>by rw[← e,q]at h;cases h]
 |true=>
  have h0:S 0=false:=by
   cases e:S 0 with
   |false=>rfl
   |true=>rw[hn.top0 e]at q;cases q
  have h1:S 1=false:=by
   cases e:S 1 with
   |false=>rfl
   |true=>rw[hn.top1 h0 e]at q;cases q
  have:B5 [lift (gF (Jg Us)) S,one 3]=lift (hF (Jg Us)) S:=by
   funext e
   show(lift (gF (Jg Us)) S e||(one 3 e||false))=_
   rw[Bool.or_false,Bool.eq_iff_iff,Bool.or_eq_true,Al,Al]
   constructor
   ·rintro(⟨c,hc,h2,h3⟩|h)
    ·refine⟨c,hc,h2,?_⟩
     unfold hF
     cases q3:Nat.beq 3 c with
     |false=>exact h3
     |true=>
      have:=Bu q3
      subst this
      rcases xA h3 (by decide)with rfl|h
      ·rfl
      ·exfalso
       rw[E5 rfl rfl]at h3
       cases q4:Jg Us (Fe 3)with
       |true=>rw[q4]at h3;cases h3
       |false=>rw[q4]at h3;exact absurd (Bu h3▸h:34≤3) (by decide)
    ·exact⟨3,by decide,q,h⟩
   ·intro HH
    refine Ac λXz hXz=>?_
    obtain⟨c,hc,h2,h3⟩:=HH
    refine hXz ?_
    unfold hF at h3
    cases q3:Nat.beq 3 c with
    |true=>rw[q3]at h3;exact .inr h3
    |false=>rw[q3]at h3;exact .inl ⟨c,hc,h2,h3⟩
  dsimp only
  exact(this).symm▸C00 hn h0 h1
end
section
open PySem
noncomputable def X3(Us:List CS)(S:CS):CS:=match S 3 with
 |true=>N (B5 [Ft Us (λc=>S c&&!Nat.beq c 3),one 3])
 |false=>Ft Us (λc=>S c&&!Nat.beq c 3)
noncomputable def swO(d:Bool)(Hs:List CS)(S X:CS):CS:=match d with
 |true=>N (B5 (X::Hs.map λU=>Dw U S))
 |false=>N (B5 (Hs.map λU=>Dw U X))
noncomputable def sY(d:Bool)(Us Hs:List CS)(S:CS):CS:=swO d Hs S (X3 Us S)
theorem C89{b:Nat→Bool}{c:Nat}(h:b 99=false)(hc:Xm [11,34] c=true):hF b c=one c:=by
 have:c=11∨c=34:=by
  unfold Xm at hc
  simp only[List.any_cons,List.any_nil,Bool.or_false]at hc
  rcases Ho hc with h|h
  ·exact .inl (Bu h).symm
  ·exact .inr (Bu h).symm
 rcases this with rfl|rfl
 ·exact(L6 h).1
 ·exact(L6 h).2
theorem Jt{b:Nat→Bool}{x:Bool}{c:Nat}(h3:Nat.beq 3 c=false)(h1:Nat.beq 1 c=false)(h2:Nat.beq 21 c=false)(hc:c<38):lift (hF b) (Dm x c)=Dm (x||b (Fe c)) c:=by
 rw[kD hc]
 cases x with
 |true=>rfl
 |false=>
  dsimp only
  unfold hF
  exact(h3).symm▸E5 h1 h2
theorem t9{b b':Nat→Bool}{c:Nat}(hc:c<38)(h:b 99=false)(h':b' 99=false):lift (hF b') (hF b c)=hF (λv=>b v||b' v) c:=by
 cases q3:Nat.beq 3 c with
 |true=>
  have:=Bu q3
  subst this
  exact Ak (by decide)
 |false=>
  have e1:∀b,hF b c=gF b c:=λb=>by unfold hF;rw[q3]
  rw[e1,e1]
  have h11:hF b' 11=one 11:=(L6 h').1
  have h34:hF b' 34=one 34:=(L6 h').2
  cases q1:Nat.beq 1 c with
  |true=>
   have:=Bu q1
   cases this
   cases x0:b 0<;>cases x1:b 1
   ·have:gF b 1=one 1:=by unfold gF;rw[x0,x1];show Dm (b 99) 1=_;rw[h];rfl
    rw[this,Ak (by decide)]
    show gF b' 1=_
    unfold gF
    dsimp only
    rw[x0,x1,Bool.false_or,Bool.false_or,show Fe 1=99 from rfl,h,Bool.false_or]
   all_goals
    have e:gF b 1=By (one 11) (By (Dm (b 0) 4) (Dm (b 1) 5)):=by unfold gF;rw[x0,x1];rfl
    have e':gF (λv=>b v||b' v) 1=By (one 11) (By (Dm (b 0||b' 0) 4) (Dm (b 1||b' 1) 5)):=by unfold gF;dsimp only;rw[x0,x1];simp
    rw[e,e',F6,F6,Ak (by decide),h11,Jt rfl rfl rfl (by decide),Jt rfl rfl rfl (by decide)]
    rfl
  |false=>cases q2:Nat.beq 21 c with
   |true=>
    have:=Bu q2
    subst this
    cases x0:b 0<;>cases x1:b 1
    ·have:gF b 21=one 21:=by unfold gF;rw[x0,x1];show Dm (b 99) 21=_;rw[h];rfl
     rw[this,Ak (by decide)]
     show gF b' 21=_
     unfold gF
     dsimp only
     rw[x0,x1,Bool.false_or,Bool.false_or,show Fe 21=99 from rfl,h,Bool.false_or]
    all_goals
     have e:gF b 21=By (one 34) (By (Dm (b 0) 36) (Dm (b 1) 35)):=by unfold gF;rw[x0,x1];rfl
     have e':gF (λv=>b v||b' v) 21=By (one 34) (By (Dm (b 0||b' 0) 36) (Dm (b 1||b' 1) 35)):=by unfold gF;dsimp only;rw[x0,x1];simp
     rw[e,e',F6,F6,Ak (by decide),h34,Jt rfl rfl rfl (by decide),Jt rfl rfl rfl (by decide)]
     rfl
   |false=>
    rw[E5 q1 q2,E5 q1 q2,Jt q3 q1 q2 hc]
theorem Ug{Us:List CS}{S:CS}(hn:Nm S)(hl:Lo S):Lo (Bb Us S):=by
 rw[Cv hn hl]
 exact Lo.lift λc hc η=>wS hc
theorem N5{Us Vs:List CS}{S:CS}(hn:Nm S)(hl:Lo S):Bb Vs (Bb Us S)=Bb (Us++Vs) S:=by
 rw[Cv (G1 hn) (Ug hn hl),Cv hn hl,Cv hn hl,I9]
 refine Ds λc hc η=>?_
 rw[t9 hc (b99 _) (b99 _)]
 congr 1
 funext v
 unfold Jg
 rw[List.any_append]
 cases Nat.blt v 14<;>rfl
theorem yC{Us Vs:List CS}{S:CS}(hn:Nm S)(hl:Lo S)(h:∀f:CS→Bool,Us.any f=Vs.any f):Bb Us S=Bb Vs S:=by
 rw[Cv hn hl,Cv hn hl]
 have:Jg Us=Jg Vs:=by funext v;unfold Jg;rw[h]
 rw[this]
theorem A31{c:Nat}:hF (Jg []) c=one c:=by
 have:Jg []=λη=>false:=funext λv=>Bool.and_false _
 rw[this]
 unfold hF gF
 simp only[Bool.or_false,Bool.and_false]
 cases q:Nat.beq 3 c with
 |true=>rw[Bu q]
 |false=>rfl
theorem cJ{S:CS}(hn:Nm S)(hl:Lo S):Bb [] S=S:=by
 rw[Cv hn hl]
 exact(Ds λc η η=>A31).trans (Ms hl)
noncomputable def yF(U:CS)(c:Nat):CS:=match U 0||U 1 with
 |true=>one c
 |false=>match Nat.beq 0 c with
  |true=>one 0
  |false=>match Nat.beq 1 c with
   |true=>Sw U
   |false=>match G3 U&&Gl U Aj with
    |true=>rO U c
    |false=>eD U c
theorem B26{U:CS}(h:Nm U):N (Sw U)=Sw U:=by
 unfold Sw
 repeat' split
 ·exact Ow 1 (by decide)
 ·exact Ow 10 (by decide)
 ·exact Ow 1 (by decide)
 ·exact h
theorem p5{U S:CS}(hU:Nm U)(hn:Nm S)(hl:Lo S):Dw U S=N (lift (yF U) S):=by
 unfold Dw
 cases e0:S 0 with
 |true=>
  have hs:=hn.top0 e0
  subst hs
  have:yF U 0=one 0:=by unfold yF;cases U 0||U 1<;>rfl
  rw[Ak (f:=yF U) (by decide),this]
  exact(Ow 0 (by decide)).symm
 |false=>
  cases eU:U 0||U 1 with
  |true=>
   dsimp only
   rw[Ds (g:=one) λc η η=>by unfold yF;rw[eU],Ms hl]
   exact hn.symm
  |false=>
   cases e1:S 1 with
   |true=>
    have hs:=hn.top1 e0 e1
    subst hs
    have:yF U 1=Sw U:=by
     unfold yF
     rw[eU]
     try rfl
    rw[Ak (f:=yF U) (by decide),this]
    exact(B26 hU).symm
   |false=>
    have ne:∀c,S c=true→Nat.beq 0 c=false∧Nat.beq 1 c=false:=λc h=>⟨Me λe=>(by rw[← e,e0]at h;cases h),Me λe=>(by rw[← e,e1]at h;cases h)⟩
    cases q:G3 U&&Gl U Aj with
    |true=>exact congrArg N (Ds λc hc h=>by unfold yF;rw[eU,(ne c h).1,(ne c h).2,q])
    |false=>exact congrArg N (Ds λc hc h=>by unfold yF;rw[eU,(ne c h).1,(ne c h).2,q])
noncomputable def YF(Hs:List CS)(c:Nat):CS:=λe=>Hs.any λU=>yF U c e
theorem Js(A B:CS):By A B=By B A:=funext λη=>Bool.or_comm _ _
theorem I8(A B C:CS):By (By A B) C=By A (By B C):=funext λη=>Bool.or_assoc _ _ _
theorem cF:∀(L:List CS)(B:CS),N (By (B5 (L.map N)) B)=N (By (B5 L) B)
 |[],_=>rfl
 |A::L,B=>by
  rw[List.map_cons,Lg,Lg,I8,I8,Ox,Js A,Js A,I8,I8]
  exact cF L (By B A)
theorem y1(L:List CS):N (B5 (L.map N))=N (B5 L):=by
 have:=cF L Eo
 rwa [U3,U3]at this
theorem kE{Hs:List CS}{S:CS}:B5 (Hs.map λU=>lift (yF U) S)=lift (YF Hs) S:=by
 funext e
 unfold B5
 rw[List.any_map,Bool.eq_iff_iff,List.any_eq_true,Al]
 constructor
 ·rintro⟨U,hU,h⟩
  obtain⟨c,hc,h1,h2⟩:=Al.mp h
  exact⟨c,hc,h1,Qe ⟨U,hU,h2⟩⟩
 ·intro HH
  refine Ac λXz hXz=>?_
  obtain⟨c,hc,h1,h2⟩:=HH
  refine hXz ?_
  obtain⟨U,hU,h3⟩:=eY h2
  exact⟨U,hU,Al.mpr ⟨c,hc,h1,h3⟩⟩
theorem Zd{Hs:List CS}{S:CS}(hH:∀U∈Hs,Nm U)(hn:Nm S)(hl:Lo S):N (B5 (Hs.map λU=>Dw U S))=N (lift (YF Hs) S):=by
 have:Hs.map (λU=>Dw U S)=(Hs.map λU=>lift (yF U) S).map N:=by
  rw[List.map_map]
  exact List.map_congr_left λU hU=>p5 (hH U hU) hn hl
 rw[this,y1,kE]
noncomputable def wF(d:Bool)(b:Nat→Bool)(Hs:List CS)(c:Nat):CS:=match d with
 |true=>By (hF b c) (YF Hs c)
 |false=>lift (YF Hs) (hF b c)
theorem kC{f g:Nat→CS}{S:CS}:By (lift f S) (lift g S)=lift (λc=>By (f c) (g c)) S:=by
 funext e
 rw[Di,Bool.eq_iff_iff,Bool.or_eq_true,Al,Al,Al]
 constructor
 ·rintro(⟨c,hc,h,h2⟩|⟨c,hc,h,h2⟩)
  ·exact⟨c,hc,h,by rw[Di,h2];rfl⟩
  ·exact⟨c,hc,h,by rw[Di,h2,Bool.or_true]⟩
 ·intro HH
  refine Ac λXz hXz=>?_
  obtain⟨c,hc,h,h2⟩:=HH
  refine hXz ?_
  rcases Ho h2 with h2|h2
  ·exact .inl ⟨c,hc,h,h2⟩
  ·exact .inr ⟨c,hc,h,h2⟩
theorem N7{d:Bool}{Us Hs:List CS}{S:CS}(hH:∀U∈Hs,Nm U)(hn:Nm S)(hl:Lo S):Gv d Us Hs S=N (lift (wF d (Jg Us) Hs) S):=by
 unfold Gv
 cases d with
 |true=>
  dsimp only
  rw[Qd,Js,← Ox,Zd hH hn hl,Ox,Cv hn hl,Js,kC]
  rfl
 |false=>
  dsimp only
  rw[Zd hH (G1 hn) (Ug hn hl),Cv hn hl,I9]
  rfl
theorem pX{d:Bool}{Us Vs Hs Gs:List CS}{S:CS}(hH:∀U∈Hs,Nm U)(hG:∀U∈Gs,Nm U)(hn:Nm S)(hl:Lo S)(h:∀f:CS→Bool,Us.any f=Vs.any f)(h2:∀f:CS→Bool,Hs.any f=Gs.any f):Gv d Us Hs S=Gv d Vs Gs S:=by
 have e1:Jg Us=Jg Vs:=by funext v;unfold Jg;rw[h]
 have e2:YF Hs=YF Gs:=by funext c e;exact h2 _
 rw[N7 hH hn hl,N7 hG hn hl]
 unfold wF
 rw[e1,e2]
theorem j3{c:Nat}(h:c<38):Nm (one c):=Ow c h
theorem lK{d:Bool}{Us Hs:List CS}{S:CS}(hn:Nm S)(hl:Lo S):sY d Us Hs S=Gv d Us Hs S:=by
 have hr:X3 Us S=Bb Us S:=by
  have hn2:Nm λc=>S c&&!Nat.beq c 3:=hn.sub λc e=>(Ab e).1
  have hl2:Lo λc=>S c&&!Nat.beq c 3:=λc hc=>by show(S c&&!Nat.beq c 3)=false;rw[hl c hc];rfl
  unfold X3
  rw[Gi hn2 hl2]
  cases q:S 3 with
  |false=>
   unfold Bb
   rw[q,Gi hn hl]
   refine congrArg (lift _) (funext λc=>?_)
   cases e:S c with
   |false=>rfl
   |true=>
    cases q3:Nat.beq c 3 with
    |false=>rfl
    |true=>rw[Bu q3,q]at e;cases e
  |true=>
   unfold Bb
   rw[q,Gi hn hl]
   refine congrArg N (funext λe=>?_)
   show(lift (gF (Jg Us)) (λc=>S c&&!Nat.beq c 3) e||(one 3 e||false))=(lift (gF (Jg Us)) S e||(one 3 e||false))
   cases q3:one 3 e with
   |true=>rw[Bool.true_or,Bool.or_true,Bool.or_true]
   |false=>
    rw[Bool.or_false,Bool.or_false,Bool.or_false,Bool.eq_iff_iff,Al,Al]
    constructor
    ·rintro⟨c,hc,h1,h2⟩
     exact⟨c,hc,(Ab h1).1,h2⟩
    ·rintro⟨c,hc,h1,h2⟩
     refine⟨c,hc,?_,h2⟩
     rw[h1]
     cases e3:Nat.beq c 3 with
     |false=>rfl
     |true=>
      exfalso
      have:=Bu e3
      subst this
      rw[E5 rfl rfl]at h2
      cases q4:Jg Us (Fe 3)with
      |true=>rw[q4]at h2;cases h2
      |false=>rw[q4]at h2;have h2:one 3 e=true:=h2;rw[q3]at h2;cases h2
 unfold sY swO Gv
 rw[hr]
 cases d with
 |true=>
  dsimp only
  rw[Qd,Lg]
 |false=>rfl
end
section
open PySem
noncomputable def meN:Nat:=0x340020201f000000340020201f0000000c002020270000003fffffffff00000007cc20288700000007cc20288700000007cc20288700000007cc2028870000000433202887000000043320288700000007cc20288700000007cc202887000000043320288700000004332028870000000400a4284700000004006128470000003fffffffff00000004003a2c070000000400382c070000000400a428470000000400322c070000000400612847000000040020ba0700000004002079070000003fffffffff000000040020fb0700000007ffffffc700000004003a2c07000000040020ba07000000040020790700000007ff2028870000000400e528470000000c00202027000000340020201f000000340020201f0000003fffffffff0000003fffffffff0000003fffffffff
noncomputable def pmN:Nat:=0x340020201f000000340020201f0000000c002020270000003fffffffff00000007cc20208700000007cc20208700000007cc20208700000007cc2020870000000433202087000000043320208700000007cc20208700000007cc202087000000043320208700000004332020870000000400a4204700000004006120470000003fffffffff00000004003a2c0700000004003a2c070000000400a4204700000004003a2c070000000400612047000000040020b20700000004002071070000003fffffffff000000040020f30700000004003a2c0700000004003a2c07000000040020b207000000040020710700000007ff2020870000000400e520470000000c00202027000000340020201f000000340020201f0000003fffffffff0000003fffffffff0000003fffffffff
noncomputable def C88:Nat:=0x100000000000000020000000000000000000000003ff00000000000003ff00000000000003ff00000000000003ff00000000000003ff00000000000003ff00000000000003ff00000000000003ff00000000000003ff00000000000003ff0000000000000000c500000000000000c500000000000000000000000000000000000000000000000000000000000000c5000000000000000000000000000000c50000000000000000c300000000000000c3000000000000000000000000000000c30000000000000000000000000000000000000000000000c300000000000000c30000000003ff0000000000000000c50000000000000000002000000000000000100000000000000000000000000000000000000000000000000000000000000000
noncomputable def hcN:Nat:=0x1000100023ffc0080008000800080004000400080008000400040002000103fff3800140000200a00001000080004000000003ffc3e000008000401c0003000020001000100003fff3fff
noncomputable def hvN:Nat:=0x3fff3fff3fff3ffc3e00380014000a0001c00030000100800080004000800040002000100008000400020001
noncomputable def fmN:Nat:=0x65402222222222110771713303773321456000
noncomputable def wP(c d:Nat):Bool:=Nat.testBit meN (64*c+d)
noncomputable def pmT(c d:Nat):Bool:=Nat.testBit pmN (64*c+d)
noncomputable def hiT(c d:Nat):Bool:=Nat.testBit C88 (64*c+d)
noncomputable def prT(c:Nat):Bool:=Nat.testBit 0x3bffc5d3f8 c
noncomputable def wM(c:Nat):Bool:=Nat.testBit 0x3800000038 c
noncomputable def mbT(c:Nat):Bool:=Nat.testBit 0x380020003b c
noncomputable def Lz(n c:Nat):Bool:=Nat.beq (Nat.land (Nat.shiftRight fmN (4*c)) 15) n
noncomputable def hM(c:Nat):Nat:=Nat.land (Nat.shiftRight hcN (16*c)) 16383
noncomputable def hvM(x:Nat):Nat:=Nat.land (Nat.shiftRight hvN (16*x)) 16383
noncomputable def vY(l:List Nat):Nat:=l.foldl (λm c=>Nat.lor m (hM c)) 0
noncomputable def Hw(xs:List Nat):Nat:=xs.foldl (λm x=>Nat.lor m (hvM x)) 0
noncomputable def A86(c:Nat)(xs:List Nat)(hm:Nat):Nat:=eI (Nat.beq c 0) (A3 xs 21) (A3 xs 20) (Nat.beq c 1) (A3 xs 11) (A3 xs 19) (A3 xs 18) (Nat.blt 0 (xs.filter Ht).length) (Nat.beq (xs.filter Ht).length xs.length) (isT c)
 (Nat.beq (xs.filter Y1).length xs.length) (Nat.beq (Nat.land (hM c) hm) 0) (isO c) (!Nat.beq (Nat.land (hM c) hm) 0) (Nat.beq c 11) (hM c) (Nat.land (hM c) hm) 15872 0
noncomputable def yvT(us:List Nat)(c:Nat):List Nat:=
 match A3 us 0||A3 us 1 with
 |true=>[c]
 |false=>match Nat.beq 0 c with
  |true=>[0]
  |false=>match Nat.beq 1 c with
   |true=>match us.any (Lz 0)||us.any (Lz 6)with
    |true=>[1]
    |false=>match us.any (Lz 7)with
     |true=>match us.all (Lz 7)&&!A3 us 11 with
      |true=>[10]
      |false=>[1]
     |false=>us
   |false=>match !us.isEmpty&&us.all wM with
    |true=>match wM c with
     |true=>match us.any (pmT c)with
      |true=>[c]
      |false=>[]
     |false=>match mbT c with
      |true=>us.map Dq
      |false=>[]
    |false=>match us.filter (wP c)with
     |[]=>[]
     |h::hs=>match Lz 7 c&&(h::hs).all prT with
      |true=>h::hs
      |false=>match(Nat.beq 6 c||Nat.beq 7 c)&&(h::hs).all (hiT c)with
       |true=>h::hs
       |false=>[c]
noncomputable def chk(tw:Bool)(xs:List Nat):Bool:=(A0++[34,35,36]).all λe=>Nat.beq (vY (yvT (Jf tw xs) e)) (A86 e xs (Hw xs))
theorem v9:([true,false].all λtw=>chk tw []&&(List.range 22).all λx=>chk tw [x]&&(List.range 22).all λy=>Nat.beq x y||chk tw [x,y])=true:=by decide +kernel
end
section
open PySem
theorem yL{f g:Nat→Nat→Bool}(h:((List.range 38).all λc=>(List.range 38).all λd=>f c d==g c d)=true){c d:Nat}(hc:c<38)(hd:d<38):f c d=g c d:=eq_of_beq (Gn (Gn h hc) hd)
theorem A02{c d:Nat}(hc:c<38)(hd:d<38):Lv c d=wP c d:=yL (by decide +kernel) hc hd
theorem zH{c d:Nat}(hc:c<38)(hd:d<38):Ng c d=pmT c d:=yL (by decide +kernel) hc hd
theorem A30{c d:Nat}(hc:c<38)(hd:d<38):V0 c d=hiT c d:=yL (by decide +kernel) hc hd
theorem cN{f g:Nat→Bool}(h:((List.range 38).all λc=>f c==g c)=true){c:Nat}(hc:c<38):f c=g c:=eq_of_beq (Gn h hc)
theorem zF{c:Nat}(hc:c<38):C8 c=prT c:=cN (by decide +kernel) hc
theorem j5{c:Nat}(hc:c<38):Aj c=wM c:=cN (by decide +kernel) hc
theorem A03{c:Nat}(hc:c<38):mbC c=mbT c:=cN (by decide +kernel) hc
theorem Ob{c:Nat}(hc:c<38):Au 0 c=Lz 0 c∧Au 6 c=Lz 6 c∧Au 7 c=Lz 7 c:=⟨cN (by decide +kernel) hc,cN (by decide +kernel) hc,cN (by decide +kernel) hc⟩
theorem Y4{c v:Nat}(hc:c<38)(hv:v<14):A3 (hC c) v=(hM c).testBit v:=by
 have k:((List.range 38).all λc=>(List.range 14).all λv=>A3 (hC c) v==(hM c).testBit v)=true:=by decide +kernel
 exact eq_of_beq (Be (Gn k hc) v (En hv))
theorem t3{x v:Nat}(hx:x<23)(h:v<14):A3 (hv x) v=(hvM x).testBit v:=by
 have k:((List.range 23).all λx=>(List.range 14).all λv=>A3 (hv x) v==(hvM x).testBit v)=true:=by decide +kernel
 exact eq_of_beq (Be (Be k x (En hx)) v (En h))
theorem O6(l m:List Nat)(v:Nat):A3 (l++m) v=(A3 l v||A3 m v):=List.any_append
theorem Cs(l:List Nat)(f:Nat→Bool)(v:Nat):A3 (l.filter f) v=(A3 l v&&f v):=by
 rw[Bool.eq_iff_iff,At,List.mem_filter,Bool.and_eq_true,At]
theorem V1{v:Nat}(h:v<14):∀{xs acc:List Nat}{m:Nat},(∀x∈xs,x<23)→A3 acc v=m.testBit v→A3 (xs.foldl Dd acc) v=(xs.foldl (λm x=>Nat.lor m (hvM x)) m).testBit v
 |[],_,_,_,e=>e
 |x::xs,acc,m,hx,e=>by
  refine V1 h (xs:=xs) (λy hy=>hx y (.tail _ hy)) ?_
  unfold Dd
  rw[O6,Cs,t3 (hx x (.head _)) h,e]
  show _=(m |||hvM x).testBit v
  rw[Nat.testBit_or]
  cases m.testBit v<;>simp
theorem Q3{xs:List Nat}{v:Nat}(hx:∀x∈xs,x<23)(h:v<14):A3 (Bg xs) v=(Hw xs).testBit v:=V1 h hx (by simp[A3])
theorem Sz{v:Nat}(h:v<14):∀{l:List Nat}{m:Nat},(∀c∈l,c<38)→(l.foldl (λm c=>Nat.lor m (hM c)) m).testBit v=(m.testBit v||l.any λc=>A3 (hC c) v)
 |[],m,_=>by simp
 |c::l,m,hc=>by
  rw[List.foldl_cons,Sz h (λx hx=>hc x (.tail _ hx)),List.any_cons,Y4 (hc c (.head _)) h]
  show((m |||hM c).testBit v||_)=_
  rw[Nat.testBit_or,Bool.or_assoc]
theorem Vh{c:Nat}{xs:List Nat}(hc:c<38)(hx:∀x∈xs,x<23):Nat.beq (Eu c xs).length 0=Nat.beq (Nat.land (hM c) (Hw xs)) 0:=by
 have bit:∀v,v<14→A3 (Eu c xs) v=(hM c &&& Hw xs).testBit v:=λv hv=>by
  rw[Eu,Cs,Nat.testBit_and,Y4 hc hv,Q3 hx hv]
 rw[Bool.eq_iff_iff]
 constructor
 ·intro h
  have h:=Bu h
  have hnil:=List.length_eq_zero_iff.mp h
  have:hM c &&& Hw xs=0:=by
   apply Nat.eq_of_testBit_eq
   intro i
   rw[Nat.zero_testBit]
   by_cases hi:i<14
   ·rw[← bit i hi,hnil];rfl
   ·rw[Nat.testBit_and]
    have:(hM c).testBit i=false:=by
     apply Nat.testBit_lt_two_pow
     exact Nat.lt_of_lt_of_le (Nat.lt_succ_of_le (Nat.and_le_right:hM c≤16383)) (Nat.pow_le_pow_right (n:=2) (i:=14) (by decide) (Nat.not_lt.mp hi))
    rw[this];rfl
  rw[show Nat.land (hM c) (Hw xs)=0 from this];rfl
 ·intro h
  have h:hM c &&& Hw xs=0:=Bu h
  cases q:Eu c xs with
  |nil=>rfl
  |cons v l=>
   have hv:v∈hC c:=(M0 (q▸List.Mem.head l)).1
   have:=bit v ((Cz hc).2 v hv)
   rw[q,h,Nat.zero_testBit]at this
   rw[At.mpr (.head _)]at this
   cases this
theorem v7{c:Nat}{xs:List Nat}{v:Nat}(hc:c<38)(hx:∀x∈xs,x<23)(hv:v<14):A3 (Fs c xs) v=(A86 c xs (Hw xs)).testBit v:=by
 have e1:=Y4 hc hv
 have e2:A3 (Eu c xs) v=(Nat.land (hM c) (Hw xs)).testBit v:=by
  show _=(hM c &&& Hw xs).testBit v
  rw[Eu,Cs,Nat.testBit_and,e1,Q3 hx hv]
 have z:=Vh hc hx
 have z2:Nat.blt 0 (Eu c xs).length= !Nat.beq (Nat.land (hM c) (Hw xs)) 0:=by
  rw[← z]
  cases Eu c xs<;>rfl
 have e3:A3 [9,10,11,12,13] v=(15872:Nat).testBit v:=eq_of_beq (Be (by decide +kernel:((List.range 14).all λv=>A3 [9,10,11,12,13] v==(15872:Nat).testBit v)=true) v (En hv))
 unfold Fs A86
 rw[z,z2]
 exact(Gg (g:=λl=>A3 l v) (n:=[]) (n':=(0:Nat).testBit v) e1 e2 e3 (Nat.zero_testBit v).symm).trans (Gg (g:=λm:Nat=>m.testBit v) rfl rfl rfl rfl).symm
noncomputable def Ej(A:CS)(v:Nat):Bool:=Bx A λe=>A3 (hC e) v
theorem Fv{us:List Nat}(h:∀u∈us,u<38)(f:Nat→Bool):Bx (lS us) f=us.any f:=by
 unfold Bx
 rw[Bool.eq_iff_iff,List.any_eq_true,List.any_eq_true]
 constructor
 ·rintro⟨c,hc,e⟩
  obtain⟨e1,e2⟩:=Ab e
  obtain⟨d,hd,e3⟩:=eY e1
  exact⟨d,hd,by rw[Bu e3];exact e2⟩
 ·rintro⟨c,hc,e⟩
  exact⟨c,En (h c hc),by rw[Bool.and_eq_true];exact⟨Qe ⟨c,hc,Nat.beq_refl c⟩,e⟩⟩
theorem Sl{us:List Nat}(h:∀u∈us,u<38)(f:Nat→Bool):Gl (lS us) f=us.all f:=by
 have:=Fv h λc=>!f c
 unfold Bx at this
 unfold Gl
 have e1:us.all f= !us.any λc=>!f c:=by rw[List.not_any_eq_all_not];simp
 rw[e1,← this,List.not_any_eq_all_not]
 congr 1
 funext d
 show _= !(lS us d&&!f d)
 cases lS us d<;>cases f d<;>rfl
theorem Ee{c:Nat}(h:c<38)(f:Nat→Bool):Bx (one c) f=f c:=by
 have:=Fv (us:=[c]) (λu hu=>by rw[Hd hu];exact h) f
 rw[List.any_cons,List.any_nil,Bool.or_false]at this
 rw[← this]
 congr 1
 funext d
 exact(Bool.or_false _).symm
theorem Vx(f:Nat→Bool):Bx Eo f=false:=by
 have:=Fv (us:=[]) (λη h=>by cases h) f
 exact this
theorem Om{g:Nat→CS}{S:CS}{f:Nat→Bool}:Bx (lift g S) f=Bx S λc=>Bx (g c) f:=by
 unfold Bx
 rw[Bool.eq_iff_iff,List.any_eq_true,List.any_eq_true]
 constructor
 ·rintro⟨e,he,h⟩
  refine Ac λXz hXz=>?_
  obtain⟨h1,h2⟩:=Ab h
  obtain⟨c,hc,h3,h4⟩:=Al.mp h1
  refine hXz ?_
  exact⟨c,En hc,by rw[h3];exact Qe ⟨e,he,by rw[h4,h2];rfl⟩⟩
 ·rintro⟨c,hc,h⟩
  refine Ac λXz hXz=>?_
  obtain⟨h1,h2⟩:=Ab h
  obtain⟨e,he,h3⟩:=eY h2
  obtain⟨h3,h4⟩:=Ab h3
  refine hXz ?_
  exact⟨e,he,by rw[Al.mpr ⟨c,List.mem_range.mp hc,h1,h3⟩,h4];rfl⟩
theorem Yw{A B:CS}{f:Nat→Bool}:Bx (By A B) f=(Bx A f||Bx B f):=by
 unfold Bx
 rw[Bool.eq_iff_iff,Bool.or_eq_true,List.any_eq_true,List.any_eq_true,List.any_eq_true]
 constructor
 ·rintro⟨c,hc,h⟩
  obtain⟨h1,h2⟩:=Ab h
  rcases Ho h1 with h1|h1
  ·exact .inl ⟨c,hc,by rw[h1,h2];rfl⟩
  ·exact .inr ⟨c,hc,by rw[h1,h2];rfl⟩
 ·rintro(⟨c,hc,h⟩|⟨c,hc,h⟩)
  ·obtain⟨h1,h2⟩:=Ab h
   exact⟨c,hc,by rw[Di,h1,h2];rfl⟩
  ·obtain⟨h1,h2⟩:=Ab h
   exact⟨c,hc,by rw[Di,h1,h2,Bool.or_true];rfl⟩
theorem Zm(c:Nat)(hc:c<2)(v:Nat)(hv:v<14):Ej (one c) v=true:=by
 unfold Ej
 rw[Ee (by omega)]
 exact Be ((by decide +kernel:∀c<2,((List.range 14).all λv=>A3 (hC c) v)=true) c hc) v (En hv)
theorem lQ{X:CS}(hl:Lo X){v:Nat}(hv:v<14):Ej (N X) v=Ej X v:=by
 have yJ:∀c,c<2→X c=true→Ej X v=true:=λc hc h=>by
  unfold Ej Bx
  rw[List.any_eq_true]
  exact⟨c,En (by omega),by rw[h];exact Be ((by decide +kernel:∀c<2,((List.range 14).all λv=>A3 (hC c) v)=true) c hc) v (En hv)⟩
 cases e0:X 0 with
 |true=>rw[Ov e0,yJ 0 (by decide) e0];exact Zm 0 (by decide) v hv
 |false=>cases e1:X 1 with
  |true=>rw[M9 e0 e1,yJ 1 (by decide) e1];exact Zm 1 (by decide) v hv
  |false=>
   have kt:((List.range 38).all λc=>(List.range 14).all λv=>match Ik c with|.ofNat d=>!A3 (hC c) v||A3 (hC d) v|_=>true)=true:=by decide +kernel
   have kw:((List.range 38).all λc=>(List.range 14).all λv=>match Hj c with|.ofNat d=>!A3 (hC c) v||A3 (hC d) v|_=>true)=true:=by decide +kernel
   refine y0 hl e0 e1 (λc d hc e h=>?_) (λc d hc e h=>?_) rfl rfl
   ·have:=Be (Gn kt hc) v (En hv)
    rw[e,h]at this
    exact this
   ·have:=Be (Gn kw hc) v (En hv)
    rw[e,h]at this
    exact this
end
section
open PySem
theorem t4{us:List Nat}{c:Nat}:Hu (lS us) c=lS (us.filter (Lv c)):=by
 funext d
 show(A3 us d&&Lv c d)=A3 (us.filter (Lv c)) d
 rw[Cs]
theorem Zq{us:List Nat}(h:∀u∈us,u<38):G3 (lS us)= !us.isEmpty:=by
 unfold G3
 rw[Fv h]
 cases us<;>simp
theorem Ui{us:List Nat}(h:∀u∈us,u<38):Lo (lS us):=by
 intro c hc
 cases q:lS us c with
 |false=>rfl
 |true=>exact absurd (h c (At.mp q)) (Nat.not_lt.mpr hc)
theorem bA{us:List Nat}(h:∀u∈us,u<38)(v:Nat):Ej (lS us) v=us.any λc=>A3 (hC c) v:=Fv h _
theorem lP{c:Nat}(h:c<38)(v:Nat):Ej (one c) v=A3 (hC c) v:=Ee h _
theorem aM{c:Nat}(h:c<38):Dq c<38:=(by decide +kernel:∀c<38,Dq c<38) c h
noncomputable def Vl(v:Nat)(S:CS)(l:List Nat):Prop:=Ej S v=l.any λc=>A3 (hC c) v
section
variable{us:List Nat}{e v:Nat}{A B:CS}{l m:List Nat}
theorem Vl.one(h:e<38):Vl v (one e) [e]:=(lP h v).trans (Bool.or_false _).symm
theorem Vl.no:Vl v Eo []:=Vx _
variable(h:∀u∈us,u<38)
include h
theorem Vl.lS:Vl v (lS us) us:=bA h v
theorem Y8{k:Nat}(H:∀u,u<38→Au k u=Lz k u):Bx (Mine.lS us) (Au k)=us.any (Lz k):=(Fv h _).trans (Bw λu hu=>H u (h u hu))
theorem B18:Vl v (Sw (Mine.lS us)) (match us.any (Lz 0)||us.any (Lz 6)with
  |true=>[1]
  |false=>match us.any (Lz 7)with
   |true=>match us.all (Lz 7)&&!A3 us 11 with
    |true=>[10]
    |false=>[1]
   |false=>us):=by
 unfold Sw
 rw[Y8 h λu q=>(Ob q).1,Y8 h λu q=>(Ob q).2.1,Y8 h λu q=>(Ob q).2.2,Sl h,On λu hu=>(Ob (h u hu)).2.2,Fv h,show us.any (Nat.beq 11)=A3 us 11 from Bw λu hu=>by
    rw[Bool.eq_iff_iff]
    exact⟨λe=>by rw[Bu e];exact Nat.beq_refl _,λe=>by rw[Bu e];exact Nat.beq_refl _⟩]
 cases us.any (Lz 0)||us.any (Lz 6)with
 |true=>exact .one (by decide)
 |false=>cases us.any (Lz 7)with
  |false=>exact .lS h
  |true=>cases us.all (Lz 7)&&!A3 us 11<;>exact .one (by decide)
variable(he:e<38)
include he
theorem B20(q0:Nat.beq 0 e=false):Vl v (rO (Mine.lS us) e) (match wM e with
  |true=>match us.any (pmT e)with
   |true=>[e]
   |false=>[]
  |false=>match mbT e with
   |true=>us.map Dq
   |false=>[]):=by
 unfold rO
 rw[q0,Fv h,Bw λu hu=>zH he (h u hu),j5 he,A03 he]
 cases wM e with
 |true=>cases us.any (pmT e)with
  |true=>exact .one he
  |false=>exact .no
 |false=>cases mbT e with
  |false=>exact .no
  |true=>
   show Ej (Ep (Mine.lS us)) v=(us.map Dq).any _
   unfold Ej Ep
   rw[Om,Fv h,List.any_map]
   exact Bw λu hu=>Ee (aM (h u hu)) _
variable(hv:v<14)
include hv
omit he in
theorem Vl.N:Vl v (Mine.N (Mine.lS us)) us:=(lQ (Ui h) hv).trans (bA h v)
theorem y5:Vl v (match Au 7 e&&Gl (Mine.lS us) C8 with|true=>Mine.N (Mine.lS us)|false=>qM e (Mine.lS us)) (match Lz 7 e&&us.all prT with
  |true=>us
  |false=>match(Nat.beq 6 e||Nat.beq 7 e)&&us.all (hiT e)with
   |true=>us
   |false=>[e]):=by
 unfold qM
 rw[(Ob he).2.2,Sl h,On λx hx=>zF (h x hx),Sl h,On λx hx=>A30 he (h x hx)]
 cases Lz 7 e&&us.all prT with
 |true=>exact .N h hv
 |false=>cases(Nat.beq 6 e||Nat.beq 7 e)&&us.all (hiT e)with
  |true=>exact .N h hv
  |false=>exact .one he
theorem B22:Vl v (eD (Mine.lS us) e) (match us.filter (wP e)with
  |[]=>[]
  |h::hs=>match Lz 7 e&&(h::hs).all prT with
   |true=>h::hs
   |false=>match(Nat.beq 6 e||Nat.beq 7 e)&&(h::hs).all (hiT e)with
    |true=>h::hs
    |false=>[e]):=by
 have hh:∀u∈us.filter (wP e),u<38:=λu hu=>h u (M0 hu).1
 unfold eD
 rw[t4,show us.filter (Lv e)=us.filter (wP e)from List.filter_congr λu hu=>A02 he (h u hu),Zq hh]
 revert hh
 cases us.filter (wP e)with
 |nil=>exactλη=>.no
 |cons u l=>exactλhh=>y5 hh he hv
theorem B19:Ej (yF (Mine.lS us) e) v=(yvT us e).any λc=>A3 (hC c) v:=by
 show Vl v _ _
 unfold yF yvT
 rw[Zq h,Sl h,On λu hu=>j5 (h u hu)]
 show Vl v (match A3 us 0||A3 us 1 with|true=>_|false=>_) _
 cases A3 us 0||A3 us 1 with
 |true=>exact .one he
 |false=>cases q0:Nat.beq 0 e with
  |true=>exact .one (by decide)
  |false=>cases Nat.beq 1 e with
   |true=>exact B18 h
   |false=>cases !us.isEmpty&&us.all wM with
    |true=>exact B20 h he q0
    |false=>exact B22 h he hv
end
theorem B21{us:List Nat}{e:Nat}(h:∀u∈us,u<38)(he:e<38):∀c∈yvT us e,c<38:=by
 have one:∀x,x<38→∀c∈[x],c<38:=λx hx c hc=>Hd hc▸hx
 have fil:∀c∈us.filter (wP e),c<38:=λu hu=>h u (M0 hu).1
 unfold yvT
 cases A3 us 0||A3 us 1 with
 |true=>exact one _ he
 |false=>cases Nat.beq 0 e with
  |true=>exact one _ (by decide)
  |false=>cases Nat.beq 1 e with
   |true=>cases us.any (Lz 0)||us.any (Lz 6)with
    |true=>exact one _ (by decide)
    |false=>cases us.any (Lz 7)with
     |false=>exact h
     |true=>cases us.all (Lz 7)&&!A3 us 11<;>exact one _ (by decide)
   |false=>cases !us.isEmpty&&us.all wM with
    |true=>cases wM e with
     |true=>cases us.any (pmT e)with
      |true=>exact one _ he
      |false=>exact H0
     |false=>cases mbT e with
      |false=>exact H0
      |true=>exactλc hc=>(aG hc).elim λu q=>q.2▸aM (h u q.1)
    |false=>
     revert fil
     cases us.filter (wP e)with
     |nil=>exactλη=>H0
     |cons u l=>
      intro fil
      dsimp only
      cases Lz 7 e&&(u::l).all prT with
      |true=>exact fil
      |false=>cases(Nat.beq 6 e||Nat.beq 7 e)&&(u::l).all (hiT e)with
       |true=>exact fil
       |false=>exact one _ he
noncomputable def Oc:List Nat:=A0++[34,35,36]
theorem t5{tw:Bool}{xs:List Nat}{e v:Nat}(hx:∀x∈xs,x<22)(hl:xs.length≤2)(hn:xs.Nodup)(he:e∈Oc)(hv:v<14):Ej (yF (lS (Jf tw xs)) e) v=A3 (Fs e xs) v:=by
 have he38:e<38:=(by decide:∀e∈Oc,e<38) e he
 have hus:∀u∈Jf tw xs,u<38:=λu hu=>Nat.lt_trans (B8 ((Fx (tw:=tw) hx hl).2.2 u hu)) (by decide)
 have hx23:∀x∈xs,x<23:=λx h=>Nat.lt_trans (hx x h) (by decide)
 have hc:chk tw xs=true:=by
  have k:=Be v9 tw (by cases tw<;>simp)
  obtain⟨k1,k2⟩:=Ab k
  obtain _|⟨x,_|⟨y,_|⟨z,zs⟩⟩⟩:=xs
  ·exact k1
  ·exact(Ab (Be k2 x (En (hx x (.head _))))).1
  ·have k3:=Be (Ab (Be k2 x (En (hx x (.head _))))).2 y (En (hx y (.tail _ (.head _))))
   rw[Me λe=>by rw[e]at hn;simp at hn]at k3
   exact k3
  ·simp at hl
 have k:=Bu (Be hc e he)
 rw[B19 hus he38 hv,v7 he38 hx23 hv,← k]
 unfold vY
 rw[Sz hv (B21 hus he38),Nat.zero_testBit,Bool.false_or]
end
section
open PySem
noncomputable def gB(us hl:List Nat):Bool:=match us with
 |[d]=>match Ai d with
  |true=>Ji [d] hl==Int.ofNat (Do d)
  |false=>Ji [d] hl== -1
 |us=>Ji us hl== -1
theorem gA:([true,false].all λtw=>gB (Jf tw []) (Bg [])&&(List.range 22).all λx=>gB (Jf tw [x]) (Bg [x])&&(List.range 22).all λy=>Nat.beq x y||gB (Jf tw [x,y]) (Bg [x,y]))=true:=by decide +kernel
theorem e7{us:List Nat}(h:∀u∈us,u<38)(hs:us.Pairwise (· <·)):(List.range 38).filter (lS us)=us:=by
 refine F3 (List.pairwise_lt_range.sublist List.filter_sublist) hs λx=>?_
 rw[List.mem_filter,List.mem_range]
 exact⟨λh=>At.mp h.2,λhx=>⟨h x hx,At.mpr hx⟩⟩
theorem fX{ext:List PyData}{a:Bi}(h:Bc ext a){v:Nat}(hv:v<14):(Bo a==Int.ofNat v)=Nat.beq (E6 (aS a)) v:=by
 obtain⟨t,tw,xs⟩:=a
 obtain⟨h1,h2,h3,_⟩:=h
 dsimp only at h1 h2 h3
 obtain⟨f1,f2,f3⟩:=Fx (tw:=tw) h2 h3
 have hk:gB (Jf tw xs) (Bg xs)=true:=by
  have k:=Be gA tw (by cases tw<;>simp)
  obtain⟨k1,k2⟩:=Ab k
  obtain _|⟨x,_|⟨y,_|⟨z,zs⟩⟩⟩:=xs
  ·exact k1
  ·exact(Ab (Be k2 x (En (h2 x (.head _))))).1
  ·have k3:=Be (Ab (Be k2 x (En (h2 x (.head _))))).2 y (En (h2 y (.tail _ (.head _))))
   rw[Me λe=>by rw[e]at h1;simp at h1]at k3
   exact k3
  ·simp at h3
 have hus:∀u∈Jf tw xs,u<38:=λu hu=>Nat.lt_trans (B8 (f3 u hu)) (by decide)
 have e1:Bo (t,tw,xs)=Ji (Jf tw xs) (Bg xs):=rfl
 have e2:E1 (aS (t,tw,xs))=Pd (Jf tw xs):=by
  show E1 (lS (Jf tw xs))=_
  unfold E1
  rw[e7 hus f2]
 have none_ok:Ji (Jf tw xs) (Bg xs)= -1→E1 (aS (t,tw,xs))=none→(Bo (t,tw,xs)==Int.ofNat v)=Nat.beq (E6 (aS (t,tw,xs))) v:=by
  intro e3 e4
  unfold E6
  rw[e1,e3,e4]
  rw[Me (show 98≠v by omega)]
  rfl
 generalize Jf tw xs=us at *
 obtain _|⟨d,_|⟨y,r⟩⟩:=us
 ·exact none_ok (eq_of_beq hk) e2
 ·unfold gB at hk
  unfold Pd at e2
  dsimp only at hk e2
  cases hd:Ai d with
  |true=>
   rw[hd]at hk e2
   have hk:Ji [d] (Bg xs)=Int.ofNat (Do d):=eq_of_beq hk
   have e2:E1 (aS (t,tw,xs))=some d:=e2
   unfold E6
   rw[e2,e1,hk]
   exact Y2 (Do d) v
  |false=>
   rw[hd]at hk e2
   exact none_ok (eq_of_beq hk) e2
 ·exact none_ok (eq_of_beq hk) e2
theorem pJ{ext:List PyData}{ms:List Bi}(h:∀a∈ms,Bc ext a){v:Nat}(hv:v<14):B0 (ms.map Bo) v=Jg (ms.map aS) v:=by
 unfold B0 Jg
 rw[show Nat.blt v 14=true from Nat.blt_eq.mpr hv,Bool.true_and,List.any_map,List.any_map]
 exact Bw λa ha=>fX (h a ha) hv
theorem kH{c:Nat}(h:c∈A0)(h1:Nat.beq 1 c=false)(h3:Nat.beq 21 c=false)(h2:Nat.beq 3 c=false):(!Bf c||Nat.blt 1 (hC c).length)=Nat.beq (Fe c) 99∧(Nat.beq (Fe c) 99=false→Fe c=(hC c).getD 0 0∧Fe c<14):=by
 have k:(A0.all λc=>Nat.beq 1 c||Nat.beq 21 c||Nat.beq 3 c||((!Bf c||Nat.blt 1 (hC c).length)==Nat.beq (Fe c) 99&&(Nat.beq (Fe c) 99||(Nat.beq (Fe c) ((hC c).getD 0 0)&&Nat.blt (Fe c) 14))))=true:=by decide +kernel
 have k:=Be k c h
 rw[h1,h3,h2]at k
 obtain⟨k1,k2⟩:=Ab k
 refine⟨eq_of_beq k1,λe=>?_⟩
 rw[e]at k2
 obtain⟨k3,k4⟩:=Ab k2
 exact⟨Bu k3,Vp k4⟩
theorem Sh{b:Bool}{c:Nat}(h:c<38)(f:Nat→Bool):Bx (Dm b c) f=(!b&&f c):=by
 cases b with
 |true=>exact Vx f
 |false=>exact Ee h f
theorem C26{x y:Bool}{p q r:Nat}(hp:p<38)(hq:q<38)(hr:r<38)(f:Nat→Bool):Bx (By (one p) (By (Dm x q) (Dm y r))) f=(f p||((!x&&f q)||(!y&&f r))):=by
 rw[Yw,Yw,Ee hp,Sh hq,Sh hr]
theorem c9{g:Nat→Bool}{h:Nat→Nat}{p:Nat}(f:Nat→Bool):(p::([0,1].filter g).map h).any f=(f p||((g 0&&f (h 0))||(g 1&&f (h 1)))):=by
 rw[List.any_cons,List.any_map,List.any_filter,List.any_cons,List.any_cons,List.any_nil,Bool.or_false]
 rfl
theorem A08{b bu:Nat→Bool}(e0:bu 0=b 0)(e1:bu 1=b 1)(h99:b 99=false)(f:Nat→Bool):Bx (gF b 1) f=(Bv bu 1).any f:=by
 rw[mE,h99]
 show _=(match(true&&(bu 0||bu 1))with|true=>11::(([0,1].filter λv=>!bu v).map λv=>4+v)|false=>[1]).any f
 rw[Bool.true_and,← e0,← e1]
 cases bu 0||bu 1
 ·exact(Ee (by decide) f).trans (Bool.or_false _).symm
 ·exact(C26 (by decide) (by decide) (by decide) f).trans (c9 (g:=λv=>!bu v) (h:=λv=>4+v) (p:=11) f).symm
theorem sK{b bu:Nat→Bool}(e0:bu 0=b 0)(e1:bu 1=b 1)(h99:b 99=false)(f:Nat→Bool):Bx (gF b 21) f=(Bv bu 21).any f:=by
 rw[V5,h99]
 show _=(match(true&&(bu 0||bu 1))with|true=>34::(([0,1].filter λv=>!bu v).map λv=>36-v)|false=>[21]).any f
 rw[Bool.true_and,← e0,← e1]
 cases bu 0||bu 1
 ·exact(Ee (by decide) f).trans (Bool.or_false _).symm
 ·exact(C26 (by decide) (by decide) (by decide) f).trans (c9 (g:=λv=>!bu v) (h:=λv=>36-v) (p:=34) f).symm
theorem kI{b bu:Nat→Bool}{c:Nat}(hc:c∈A0)(h:∀v,v<14→bu v=b v)(h99:b 99=false)(q1:Nat.beq 1 c=false)(q2:Nat.beq 21 c=false)(q3:Nat.beq 3 c=false)(f:Nat→Bool):Bx (gF b c) f=(Bv bu c).any f:=by
 have l:=kH hc q1 q2 q3
 rw[E5 q1 q2,Sh (Nat.lt_trans (B8 hc) (by decide))]
 unfold Bv
 rw[Me λe=>Nat.ne_of_beq_eq_false q1 e.symm,Me λe=>Nat.ne_of_beq_eq_false q2 e.symm]
 show _=(match !Bf c||(Nat.blt 1 (hC c).length|| !bu ((hC c).getD 0 0))with|true=>[c]|false=>[]).any f
 rw[← Bool.or_assoc,l.1]
 cases q:Nat.beq (Fe c) 99 with
 |true=>
  rw[Bu q,h99]
  exact(Bool.or_false _).symm
 |false=>
  rw[←(l.2 q).1,h _ (l.2 q).2]
  cases b (Fe c)
  ·exact(Bool.or_false _).symm
  ·rfl
theorem Ul{b bu:Nat→Bool}{c:Nat}(hc:c∈A0)(h:∀v,v<14→bu v=b v)(h99:b 99=false)(f:Nat→Bool):Bx (hF b c) f=(Bv bu c).any f:=by
 unfold hF
 cases q3:Nat.beq 3 c with
 |true=>
  obtain rfl:=Bu q3
  exact(Ee (by decide) f).trans (Bool.or_false _).symm
 |false=>cases q1:Nat.beq 1 c with
  |true=>exact Bu q1▸A08 (h 0 (by decide)) (h 1 (by decide)) h99 f
  |false=>cases q2:Nat.beq 21 c with
   |true=>exact Bu q2▸sK (h 0 (by decide)) (h 1 (by decide)) h99 f
   |false=>exact kI hc h h99 q1 q2 q3 f
theorem Xp{bu:Nat→Bool}{c:Nat}(hc:c∈A0):∀e∈Bv bu c,e∈Oc:=by
 intro e he
 unfold Bv at he
 split at he
 ·rcases Mw he with rfl|he
  ·split<;>decide
  ·obtain⟨v,hv,rfl⟩:=aG he
   have:v=0∨v=1:=by simpa using(M0 hv).1
   rcases this with rfl|rfl<;>(split<;>decide)
 ·split at he
  ·rw[Hd he]
   exact List.mem_append_left _ hc
  ·cases he
end
section
open PySem
theorem Gb{α:Type}{f:α→List Nat}{l:List α}{v:Nat}:A3 (l.flatMap f) v=l.any λa=>A3 (f a) v:=by
 induction l with
 |nil=>rfl
 |cons a l ih=>rw[List.flatMap_cons,O6,ih,List.any_cons]
noncomputable def Pf(d:Bool)(bu:Nat→Bool)(hs:List Bi)(v c:Nat):Bool:=match d with
 |true=>(Bv bu c).any (λe=>A3 (hC e) v)||hs.any λa=>A3 (Fs c a.2.2) v
 |false=>(Bv bu c).any λe=>hs.any λa=>A3 (Fs e a.2.2) v
theorem fH{ext:List PyData}{hs:List Bi}(hh:∀a∈hs,Bc ext a){c v:Nat}(hc:c∈Oc)(hv:v<14):Ej (YF (hs.map aS) c) v=hs.any λa=>A3 (Fs c a.2.2) v:=by
 have:Ej (YF (hs.map aS) c) v=hs.any λa=>Ej (yF (aS a) c) v:=by
  unfold Ej YF Bx
  rw[Bool.eq_iff_iff,List.any_eq_true,List.any_eq_true]
  constructor
  ·rintro⟨e,he,h⟩
   obtain⟨h1,h2⟩:=Ab h
   change((hs.map aS).any λU=>yF U c e)=true at h1
   rw[List.any_map]at h1
   obtain⟨a,ha,h3⟩:=eY h1
   have h3:yF (aS a) c e=true:=h3
   exact⟨a,ha,Qe ⟨e,he,by rw[h3,h2];rfl⟩⟩
  ·rintro⟨a,ha,h⟩
   obtain⟨e,he,h⟩:=eY h
   obtain⟨h1,h2⟩:=Ab h
   refine⟨e,he,?_⟩
   show(((hs.map aS).any λU=>yF U c e)&&A3 (hC e) v)=true
   rw[List.any_map,Qe ⟨a,ha,h1⟩]
   exact h2
 rw[this]
 exact Bw λa ha=>t5 (hh a ha).lt (hh a ha).len (hh a ha).nd hc hv
theorem Yv{c:Nat}(h:c∈A0):c∈Oc:=List.mem_append_left _ h
theorem C42{ext:List PyData}{ms hs:List Bi}{d:Bool}(hm:∀a∈ms,Bc ext a)(hh:∀a∈hs,Bc ext a){c v:Nat}(hc:c∈A0)(hv:v<14):Ej (wF d (Jg (ms.map aS)) (hs.map aS) c) v=Pf d (B0 (ms.map Bo)) hs v c:=by
 have hb:∀v,v<14→B0 (ms.map Bo) v=Jg (ms.map aS) v:=λv h=>pJ hm h
 cases d with
 |true=>
  show Ej (By (hF _ c) (YF _ c)) v=_
  unfold Ej
  rw[Yw,Ul hc hb (b99 _)]
  exact congrArg _ (fH hh (Yv hc) hv)
 |false=>
  show Ej (lift (YF _) (hF _ c)) v=_
  unfold Ej
  rw[Om,Ul hc hb (b99 _)]
  exact Bw λe he=>fH hh (Xp hc e he) hv
theorem bW{c:Nat}{xs:List Nat}(h:Bf c=true)(hc:c<38):Fs c xs=match A3 xs 21||A3 xs 20 with
  |true=>hC c
  |false=>(hC c).filter (A3 (Bg xs)):=by
 have k:((List.range 38).all λc=>!Bf c||(!Nat.beq c 0&&(!Nat.beq c 1&&(!isT c&&(!isO c&&!Nat.beq c 11)))))=true:=by decide +kernel
 have k:=Gn k hc
 rw[h]at k
 simp only[Bool.not_true,Bool.false_or,Bool.and_eq_true,Bool.not_eq_true']at k
 obtain⟨k0,k1,k2,k3,k4⟩:=k
 unfold Fs
 rw[k0,k1,k2,k3,k4,eI,Bool.false_or]
 cases A3 xs 21||A3 xs 20<;>rfl
theorem A84{c d:Nat}{xs:List Nat}{v:Nat}(h:Bf c=true)(h':Bf d=true)(hc:c<38)(hd:d<38)(le:∀v,A3 (hC c) v=true→A3 (hC d) v=true)(e:A3 (Fs c xs) v=true):A3 (Fs d xs) v=true:=by
 rw[bW h hc]at e
 rw[bW h' hd]
 cases q:A3 xs 21||A3 xs 20 with
 |true=>rw[q]at e;exact le v e
 |false=>
  rw[q]at e
  rw[Cs]at e⊢
  obtain⟨e1,e2⟩:=Ab e
  rw[le v e1,e2];rfl
theorem xZ{d:Bool}{bu:Nat→Bool}{hs:List Bi}{v c c':Nat}(h:Bf c=true)(h':Bf c'=true)(hc:c<38)(hd:c'<38)(le:∀v,A3 (hC c) v=true→A3 (hC c') v=true)(hl:Bv bu c=[]∨(Bv bu c=[c]∧Bv bu c'=[c']))(e:Pf d bu hs v c=true):Pf d bu hs v c'=true:=by
 have cut:(hs.any λa=>A3 (Fs c a.2.2) v)=true→(hs.any λa=>A3 (Fs c' a.2.2) v)=true:=by
  intro e
  obtain⟨a,ha,e⟩:=eY e
  exact Qe ⟨a,ha,A84 h h' hc hd le e⟩
 unfold Pf at e⊢
 cases d with
 |true=>
  dsimp only at e⊢
  rcases Ho e with e|e
  ·rcases hl with hl|⟨hl,hl'⟩
   ·rw[hl]at e;cases e
   ·rw[hl,List.any_cons,List.any_nil,Bool.or_false]at e
    rw[hl',List.any_cons,List.any_nil,Bool.or_false,le v e];rfl
  ·rw[cut e,Bool.or_true]
 |false=>
  dsimp only at e⊢
  rcases hl with hl|⟨hl,hl'⟩
  ·rw[hl]at e;cases e
  ·rw[hl,List.any_cons,List.any_nil,Bool.or_false]at e
   rw[hl',List.any_cons,List.any_nil,Bool.or_false]
   exact cut e
theorem H4{bu:Nat→Bool}{c:Nat}(h:Bf c=true)(hc:c<38):Bv bu c=match Nat.blt 1 (hC c).length|| !bu ((hC c).getD 0 0)with
  |true=>[c]
  |false=>[]:=by
 have k:((List.range 38).all λc=>!Bf c||(!Nat.beq c 1&&!Nat.beq c 21))=true:=by decide +kernel
 have k:=Gn k hc
 rw[h]at k
 simp only[Bool.not_true,Bool.false_or,Bool.and_eq_true,Bool.not_eq_true']at k
 unfold Bv
 rw[k.1,k.2,h]
 rfl
theorem N0{d:Bool}{bu:Nat→Bool}{hs:List Bi}{v c c':Nat}(h:Bf c=true)(h':Bf c'=true)(hc:c<38)(hd:c'<38)(e:hC c=hC c'):Pf d bu hs v c=Pf d bu hs v c':=by
 have key:∀{c c'},Bf c=true→Bf c'=true→c<38→c'<38→hC c=hC c'→Pf d bu hs v c=true→Pf d bu hs v c'=true:=by
  intro c c' h h' hc hd e
  refine xZ h h' hc hd (λv k=>e▸k) ?_
  rw[H4 h hc,H4 h' hd,e]
  cases Nat.blt 1 (hC c').length|| !bu ((hC c').getD 0 0)
  ·exact .inl rfl
  ·exact .inr ⟨rfl,rfl⟩
 rw[Bool.eq_iff_iff]
 exact⟨key h h' hc hd e,key h' h hd hc e.symm⟩
theorem B27{c d:Nat}(h:c<38)(e:Ik c=Int.ofNat d):Bf c=true∧Bf d=true∧d<38∧hC c=hC d∧c∈A0∧d∈A0:=by
 have k:((List.range 38).all λc=>match Ik c with
  |.ofNat d=>Bf c&&(Bf d&&(Nat.blt d 38&&(hC c==hC d&&(A0.contains c&&A0.contains d))))
  |_=>true)=true:=by decide +kernel
 have k:=Gn k h
 rw[e]at k
 simp only[Bool.and_eq_true]at k
 refine Ac λXz hXz=>?_
 obtain⟨k1,k2,k3,k4,k5,k6⟩:=k
 refine hXz ?_
 exact⟨k1,k2,Vp k3,eq_of_beq k4,List.contains_iff_mem.mp k5,List.contains_iff_mem.mp k6⟩
theorem y7{c d:Nat}(h:c<38)(e:Hj c=Int.ofNat d):Bf c=true∧Bf d=true∧d<38∧(∀v,A3 (hC c) v=true→A3 (hC d) v=true)∧c∈A0∧d∈A0∧Nat.blt 1 (hC d).length=true:=by
 have k:((List.range 38).all λc=>match Hj c with
  |.ofNat d=>Bf c&&(Bf d&&(Nat.blt d 38&&((hC c).all (A3 (hC d))&&(A0.contains c&&(A0.contains d&&Nat.blt 1 (hC d).length)))))
  |_=>true)=true:=by decide +kernel
 have k:=Gn k h
 rw[e]at k
 simp only[Bool.and_eq_true]at k
 refine Ac λXz hXz=>?_
 obtain⟨k1,k2,k3,k4,k5,k6,k7⟩:=k
 refine hXz ?_
 exact⟨k1,k2,Vp k3,λv hv=>Be k4 v (At.mp hv),List.contains_iff_mem.mp k5,List.contains_iff_mem.mp k6,k7⟩
theorem D06{x:Nat}(h:x<22):Ff true x=Ff false x∨(Bf (Ff true x)=true∧Bf (Ff false x)=true):=by
 have k:((List.range 22).all λx=>Nat.beq (Ff true x) (Ff false x)||(Bf (Ff true x)&&Bf (Ff false x)))=true:=by decide +kernel
 have k:=Be k x (En h)
 rcases Ho k with k|k
 ·exact .inl (Bu k)
 ·exact .inr (Ab k)
theorem A97{ns:List Nat}{tw:Bool}:B5 (ns.map (Kg tw))=lS ((ns.filter λx=>!Nat.beq x 22).map (Ff tw)):=funext λc=>by
 unfold lS B5
 rw[List.any_map,List.any_map,List.any_filter]
 refine Bw λx η=>?_
 show Kg tw x c=(!Nat.beq x 22&&Nat.beq (Ff tw x) c)
 unfold Kg
 cases Nat.beq x 22<;>rfl
theorem o7{ns:List Nat}{tw:Bool}{c y:Nat}(hn:∀x∈ns,x<23)(h:∀x<23,Kg tw x c=Nat.beq x y):B5 (ns.map (Kg tw)) c=A3 ns y:=(List.any_map).trans (Bw λx hx=>h x (hn x hx))
theorem xU(tw:Bool):(∀x<23,Kg tw x 0=Nat.beq x 21)∧∀x<23,Kg tw x 1=Nat.beq x 20:=by
 cases tw<;>decide +kernel
theorem B68{x:Nat}(h:x<23)(q:(!Nat.beq x 22)=true):x<22:=Nat.lt_of_le_of_ne (Nat.le_of_lt_succ h) λe=>nomatch (congrArg (λx=>!Nat.beq x 22) e).symm.trans q
section
variable{ms hs:List Bi}{d:Bool}{v:Nat}{W P:Nat→Bool}
theorem C30(hP:∀c∈A0,W c=P c)(h:P=Pf d (B0 (ms.map Bo)) hs v){c c':Nat}(hc:c<38)(e:Ik c=Int.ofNat c')(q:W c=true):W c'=true:=by
 refine Ac λXz hXz=>?_
 obtain⟨k1,k2,k3,k4,k5,k6⟩:=B27 hc e
 refine hXz ?_
 rw[hP c k5,h]at q
 rw[hP c' k6,h,← N0 k1 k2 hc k3 k4]
 exact q
theorem C29(hP:∀c∈A0,W c=P c)(h:P=Pf d (B0 (ms.map Bo)) hs v){c c':Nat}(hc:c<38)(e:Hj c=Int.ofNat c')(q:W c=true):W c'=true:=by
 obtain⟨k1,k2,k3,k4,k5,k6,k7⟩:=y7 hc e
 rw[hP c k5,h]at q
 rw[hP c' k6,h]
 refine xZ k1 k2 hc k3 k4 ?_ q
 rw[H4 k1 hc,H4 k2 k3,k7]
 cases Nat.blt 1 (hC c).length|| !B0 (ms.map Bo) ((hC c).getD 0 0)
 ·exact .inl rfl
 ·exact .inr ⟨rfl,rfl⟩
theorem B09(h:P=Pf d (B0 (ms.map Bo)) hs v){x:Nat}(tw:Bool)(hx:x<22):P (Ff tw x)=P (Ff false x):=by
 cases tw with
 |false=>rfl
 |true=>exact(D06 hx).elim (congrArg P) λk=>h▸N0 k.1 k.2 (Nat.lt_trans (B8 (Cb hx)) (by decide)) (Nat.lt_trans (B8 (Cb hx)) (by decide)) ((Y5 (Nat.lt_succ_of_lt hx) _).trans (Y5 (Nat.lt_succ_of_lt hx) _).symm)
theorem yZ{ns:List Nat}{tw:Bool}(hn:∀x∈ns,x<23)(hP:∀c∈A0,W c=P c)(h:P=Pf d (B0 (ms.map Bo)) hs v):Bx (N (B5 (ns.map (Kg tw)))) W=(Cq ns).any P:=by
 have t0:=o7 hn (xU tw).1
 have t1:=o7 hn (xU tw).2
 have h22:∀x∈ns.filter λx=>!Nat.beq x 22,x<22:=λx hx=>B68 (hn x (M0 hx).1) (M0 hx).2
 have hb:∀c∈(ns.filter λx=>!Nat.beq x 22).map (Ff tw),c∈A0:=λc hc=>(aG hc).elim λx hx=>hx.2▸Cb (h22 x hx.1)
 unfold Cq
 cases q:A3 ns 21 with
 |true=>rw[Ov (t0.trans q),Ee (by decide),hP 0 (by decide)];exact(Bool.or_false _).symm
 |false=>cases q2:A3 ns 20 with
  |true=>rw[M9 (t0.trans q) (t1.trans q2),Ee (by decide),hP 1 (by decide)];exact(Bool.or_false _).symm
  |false=>
   have lt:=λc hc=>Nat.lt_trans (B8 (hb c hc)) (show 34<38 by decide)
   rw[A97]at t0 t1⊢
   refine((y0 (Ui lt) (t0.trans q) (t1.trans q2) (λc c'=>C30 hP h) (λc c'=>C29 hP h) ?_ ?_).trans (Fv lt W)).trans ?_
   ·rw[hP 8 (by decide),hP 14 (by decide),h]
    exact N0 (by decide) (by decide) (by decide) (by decide) (by decide +kernel)
   ·rw[hP 9 (by decide),hP 15 (by decide),h]
    exact N0 (by decide) (by decide) (by decide) (by decide) (by decide +kernel)
   ·rw[List.any_map,List.any_map]
    exact Bw λx hx=>(hP _ (Cb (h22 x hx))).trans (B09 h tw (h22 x hx))
end
theorem iD{ext:List PyData}{ns:List Nat}{tw:Bool}{ms hs:List Bi}{d:Bool}(hn:∀x∈ns,x<23)(hm:∀a∈ms,Bc ext a)(hh:∀a∈hs,Bc ext a){v:Nat}(hv:v<14):
  Bx (N (B5 (ns.map (Kg tw)))) (λc=>Ej (wF d (Jg (ms.map aS)) (hs.map aS) c) v)=(Cq ns).any (Pf d (B0 (ms.map Bo)) hs v):=yZ hn (λc hc=>C42 hm hh hc hv) rfl
end
section
open PySem
noncomputable def S0(tw:Bool)(ns:List Nat):CS:=N (B5 (ns.map (Kg tw)))
theorem W9(tw:Bool)(ns:List Nat):Nm (S0 tw ns):=Fw _
theorem C25{ns:List Nat}{tw:Bool}(hn:∀x∈ns,x<23):Lo (B5 (ns.map (Kg tw))):=by
 intro c hc
 cases e:B5 (ns.map (Kg tw)) c with
 |false=>rfl
 |true=>
  obtain⟨S,hS,e⟩:=eY e
  obtain⟨x,hx,rfl⟩:=aG hS
  have hx:=hn x hx
  unfold Kg at e
  cases q:Nat.beq x 22 with
  |true=>rw[q]at e;cases e
  |false=>
   rw[q]at e
   have h22:x<22:=by
    have:x≠22:=λe=>by rw[e]at q;cases q
    omega
   have:=B8 (Cb (tw:=tw) h22)
   have:=Bu e
   omega
theorem xX{ns:List Nat}{tw:Bool}(hn:∀x∈ns,x<23):Lo (S0 tw ns):=Lo.N (C25 hn)
theorem C27{ext:List PyData}{hs:List Bi}(hh:∀a∈hs,Bc ext a):∀U∈hs.map aS,Nm U:=by
 intro U hU
 obtain⟨a,ha,rfl⟩:=aG hU
 obtain⟨_,_,_,_,_,h⟩:=(hh a ha).tst
 exact h
theorem B69{U:CS}{c:Nat}(hU:Lo U)(hc:c<38):Lo (yF U c):=by
 have hH:Lo (Hu U c):=λd hd=>by unfold Hu;rw[hU d hd];rfl
 have hs:Lo (qM c (Hu U c)):=by
  unfold qM
  split
  ·exact Lo.N hH
  ·exact Lo.one hc
 unfold yF
 split
 ·exact Lo.one hc
 ·split
  ·exact Lo.one (by decide)
  ·split
   ·unfold Sw
    repeat' split
    ·exact Lo.one (by decide)
    ·exact Lo.one (by decide)
    ·exact Lo.one (by decide)
    ·exact hU
   ·split
    ·unfold rO
     repeat' split
     ·exact Lo.one hc
     ·exact K0
     ·exact Lo.one hc
     ·exact R8 _
     ·exact K0
    ·unfold eD
     repeat' split
     ·exact K0
     ·exact Lo.N hH
     ·exact hs
theorem wT{Hs:List CS}{c:Nat}(h:∀U∈Hs,Lo U)(hc:c<38):Lo (YF Hs c):=by
 intro e he
 unfold YF
 cases q:Hs.any λU=>yF U c e with
 |false=>rfl
 |true=>
  obtain⟨U,hU,q⟩:=eY q
  rw[B69 (h U hU) hc e he]at q
  cases q
theorem B70{d:Bool}{b:Nat→Bool}{Hs:List CS}{c:Nat}(h:∀U∈Hs,Lo U)(hc:c<38):Lo (wF d b Hs c):=by
 cases d with
 |true=>exact Uh (wS hc) (wT h hc)
 |false=>exact Lo.lift λe he η=>wT h he
theorem C28{ext:List PyData}{hs:List Bi}(hh:∀a∈hs,Bc ext a):∀U∈hs.map aS,Lo U:=by
 intro U hU
 obtain⟨a,ha,rfl⟩:=aG hU
 exact Ui λu hu=>Nat.lt_trans (B8 ((Fx (tw:=a.2.1) (hh a ha).lt (hh a ha).len).2.2 u hu)) (by decide)
theorem Qm{ext:List PyData}{ns:List Nat}{tw:Bool}{ms hs:List Bi}{d:Bool}(hn:∀x∈ns,x<23)(hm:∀a∈ms,Bc ext a)(hh:∀a∈hs,Bc ext a){v:Nat}(hv:v<14):
  Ej (Gv d (ms.map aS) (hs.map aS) (S0 tw ns)) v=(Cq ns).any (Pf d (B0 (ms.map Bo)) hs v):=by
 rw[N7 (C27 hh) (W9 tw ns) (xX hn),lQ (Lo.lift λc hc η=>B70 (C28 hh) hc) hv]
 unfold Ej
 rw[Om]
 exact iD hn hm hh hv
theorem vM{α:Type}{f g:α→Bool}{l:List α}:(l.any λx=>f x||g x)=(l.any f||l.any g):=by
 induction l with
 |nil=>rfl
 |cons a l ih=>
  rw[List.any_cons,List.any_cons,List.any_cons,ih]
  cases f a<;>cases g a<;>cases l.any f<;>cases l.any g<;>rfl
noncomputable def A82(d:Bool)(cs:List Nat)(ms hs:List Bi):List Nat:=match d with
  |true=>F8 cs hs++(Br cs ms).flatMap hC
  |false=>F8 (Br cs ms) hs
theorem bR{cs:List Nat}{ms hs:List Bi}{d:Bool}{v:Nat}:A3 (A82 d cs ms hs) v=cs.any (Pf d (B0 (ms.map Bo)) hs v):=by
 unfold A82
 have flat:∀f:Nat→Bool,(Br cs ms).any f=cs.any λc=>(Bv (B0 (ms.map Bo)) c).any f:=λf=>by
  unfold Br
  rw[List.any_flatMap]
 cases d with
 |true=>
  dsimp only
  unfold F8 Pf
  rw[O6,Gb,Gb,flat,← vM]
  refine Bw λc η=>?_
  exact(Gb).symm▸Bool.or_comm _ _
 |false=>
  dsimp only
  unfold F8 Pf
  rw[Gb,flat]
  refine Bw λc η=>Bw λe η=>?_
  rw[Gb]
theorem Vc{ext:List PyData}{ns:List Nat}{tw:Bool}{ms hs:List Bi}{d:Bool}(hn:∀x∈ns,x<23)(hm:∀a∈ms,Bc ext a)(hh:∀a∈hs,Bc ext a):HS (Gv d (ms.map aS) (hs.map aS) (S0 tw ns))=mV d (Cq ns) ms hs:=by
 show _=(List.range 14).filter λv=>A3 (A82 d (Cq ns) ms hs) v
 refine List.filter_congr λv hv=>?_
 rw[bR]
 exact Qm hn hm hh (List.mem_range.mp hv)
theorem Lk:∀{xs acc:List Nat},(∀x∈xs,x<23∧Ht x=true)→(∀v∈acc,v∈[9,10,11,12,13])→∀v∈xs.foldl Dd acc,v∈[9,10,11,12,13]
 |[],_,_,h=>h
 |x::xs,acc,hx,h=>by
  refine Lk (xs:=xs) (λy hy=>hx y (.tail _ hy)) λv hw=>?_
  rcases sB hw with hw|hw
  ·exact h v hw
  ·have k:=(by decide +kernel:∀x<23,Ht x=true→∀v∈Mine.hv x,v∈[9,10,11,12,13]) x (hx x (.head _)).1 (hx x (.head _)).2
   exact k v (M0 hw).1
theorem C94{α:Type}{P:α→Prop}{b:Bool}{x y:α}(hx:b=true→P x)(hy:b=false→P y):P (cond b x y):=match b,hx,hy with
 |true,hx,_=>hx rfl
 |false,_,hy=>hy rfl
theorem J9{c:Nat}{xs:List Nat}{v:Nat}(hx:∀x∈xs,x<22)(h1:v∈hC c)(h2:A3 (Bg xs) v=true):A3 (Fs c xs) v=true:=by
 have a1:A3 (hC c) v=true:=At.mpr h1
 have a2:A3 (Eu c xs) v=true:=by rw[Eu,Cs,a1,h2];rfl
 have z:Nat.blt 0 (Eu c xs).length=true:=by
  cases q:Eu c xs with
  |nil=>rw[q]at a2;exact Bool.noConfusion a2
  |cons=>rfl
 have P:∀{b:Bool}{x y:List Nat},(b=true→A3 x v=true)→(b=false→A3 y v=true)→A3 (cond b x y) v=true:=C94 (P:=λl=>A3 l v=true)
 exact P (λη=>a1) λη=>P (λη=>P (λη=>a1) λη=>P (λη=>P (λq=>At.mpr (Lk (xs:=xs) (acc:=[]) (λx h=>⟨Nat.lt_trans (hx x h) (by decide),List.length_filter_eq_length_iff.mp (Bu q) x h⟩) (by decide) v (At.mp h2))) λη=>a1) λη=>a2)
  λη=>P (λη=>P (λη=>a2) λη=>a1) λη=>P (λη=>P (λη=>a1) λq=>nomatch z.symm.trans q) λη=>P (λη=>a1) λη=>a2
theorem H3{bu:Nat→Bool}{c v:Nat}(hc:c∈A0)(h1:v∈hC c)(h:bu v=false):∃e∈Bv bu c,v∈hC e:=by
 have hl:c<38:=Nat.lt_trans (B8 hc) (by decide)
 have hv:=(Cz hl).2 v h1
 unfold Bv
 cases q:(Nat.beq c 1||Nat.beq c 21)&&(bu 0||bu 1)with
 |true=>
  have k:∀v<14,v=0∨v=1∨(v∈hC 11∧v∈hC 34):=by decide +kernel
  rcases k v hv with rfl|rfl|⟨k1,k2⟩
  ·refine⟨match Nat.beq c 1 with|true=>4+0|false=>36-0,List.mem_cons_of_mem _ (List.mem_map.mpr ⟨0,oR ⟨by decide,by rw[h];rfl⟩,rfl⟩),?_⟩
   split<;>decide +kernel
  ·refine⟨match Nat.beq c 1 with|true=>4+1|false=>36-1,List.mem_cons_of_mem _ (List.mem_map.mpr ⟨1,oR ⟨by decide,by rw[h];rfl⟩,rfl⟩),?_⟩
   split<;>decide +kernel
  ·refine⟨_,.head _,?_⟩
   split
   ·exact k1
   ·exact k2
 |false=>
  dsimp only
  cases q2:Nat.blt 1 (hC c).length with
  |true=>rw[Bool.true_or,Bool.or_true];exact⟨c,.head _,h1⟩
  |false=>
   have:(hC c).getD 0 0=v:=by
    generalize hC c=L at h1 q2⊢
    obtain _|⟨a,_|⟨b,r⟩⟩:=L
    ·cases h1
    ·rw[Hd h1];rfl
    ·cases q2
   rw[this,h,Bool.not_false,Bool.or_true,Bool.or_true]
   exact⟨c,.head _,h1⟩
theorem Pc{a:Bi}{v:Nat}(h:(Bo a==Int.ofNat v)=true):Bg a.2.2=[v]:=by
 have h:=eq_of_beq h
 unfold Bo Ji at h
 cases q:wR (o3 a) (Bg a.2.2)with
 |false=>rw[q]at h;cases h
 |true=>
  rw[q]at h
  have hl:=Bu (Ab (Ab q).2).1
  have h:(Bg a.2.2).getD 0 0=v:=Int.ofNat.inj h
  clear q
  generalize Bg a.2.2=L at h hl⊢
  obtain _|⟨x,_|⟨y,r⟩⟩:=L
  ·cases hl
  ·rw[← h];rfl
  ·cases hl
theorem Yi{ms hs:List Bi}{d:Bool}{c v:Nat}(hc:c∈A0)(hx:∀a∈hs,∀x∈a.2.2,x<22)(h1:v∈hC c)(h:I0 d ms hs v=true):Pf d (B0 (ms.map Bo)) hs v c=true:=by
 have hM:Nat.blt 0 (hs.filter λa=>A3 (Bg a.2.2) v).length=true→∃a∈hs,A3 (Bg a.2.2) v=true:=by
  intro h
  cases q:hs.filter λa=>A3 (Bg a.2.2) v with
  |nil=>rw[q]at h;cases h
  |cons a l=>
   have:=M0 (q▸List.Mem.head l:a∈hs.filter λa=>A3 (Bg a.2.2) v)
   exact⟨a,this.1,this.2⟩
 have hZ:Nat.beq (ms.filter (Gd v)).length 0=true→B0 (ms.map Bo) v=false:=by
  intro h
  have hnil:=List.length_eq_zero_iff.mp (Bu h)
  cases q:B0 (ms.map Bo) v with
  |false=>rfl
  |true=>
   unfold B0 at q
   rw[List.any_map]at q
   obtain⟨a,ha,q⟩:=eY q
   have e:=Pc q
   have:a∈ms.filter (Gd v):=oR ⟨ha,by unfold Gd;rw[e,beq_self_eq_true];rfl⟩
   rw[hnil]at this
   cases this
 unfold Pf
 cases d with
 |true=>
  dsimp only at h⊢
  rcases Ho h with h|h
  ·obtain⟨a,ha,h2⟩:=hM h
   rw[show(hs.any λa:Bi=>A3 (Fs c a.2.2) v)=true from Qe ⟨a,ha,J9 (hx a ha) h1 h2⟩,Bool.or_true]
  ·obtain⟨e,he,h2⟩:=H3 hc h1 (hZ h)
   rw[show((Bv (B0 (ms.map Bo)) c).any λe=>A3 (hC e) v)=true from Qe ⟨e,he,At.mpr h2⟩];rfl
 |false=>
  dsimp only at h⊢
  obtain⟨h3,h4⟩:=Ab h
  obtain⟨a,ha,h2⟩:=hM h3
  obtain⟨e,he,h5⟩:=H3 hc h1 (hZ h4)
  exact Qe ⟨e,he,Qe ⟨a,ha,J9 (hx a ha) h5 h2⟩⟩
theorem G5{ns:List Nat}(hn:∀x∈ns,x<23):∀c∈Cq ns,c∈A0∧hC c≠[]:=by
 intro c hc
 unfold Cq at hc
 split at hc
 ·rw[Hd hc];exact⟨by decide,by decide +kernel⟩
 ·split at hc
  ·rw[Hd hc];exact⟨by decide,by decide +kernel⟩
  ·obtain⟨x,hx,rfl⟩:=aG hc
   obtain⟨h1,h2⟩:=M0 hx
   have h22:x<22:=by
    have:=hn x h1
    have:x≠22:=λe=>by rw[e]at h2;cases h2
    omega
   exact⟨Cb h22,by rw[Y5 (by omega)];exact(by decide +kernel:∀x<22,hv x≠[]) x h22⟩
theorem uZ{cs:List Nat}{ms hs:List Bi}{d:Bool}{v:Nat}(hv:v<14):A3 (mV d cs ms hs) v=cs.any (Pf d (B0 (ms.map Bo)) hs v):=by
 unfold mV
 rw[Cs,At.mpr (En hv),Bool.true_and]
 exact bR
theorem eQ{ext:List PyData}{ns:List Nat}{tw:Bool}{ms hs:List Bi}(d:Bool)(hn:∀x∈ns,x<23)(hm:∀a∈ms,Bc ext a)(hh:∀a∈hs,Bc ext a):∀c∈Cq ns,∀v∈hC c,I0 d ms hs v=true→A3 (HS (Gv d (ms.map aS) (hs.map aS) (S0 tw ns))) v=true:=by
 intro c hc v hv h
 have hb:=(G5 hn c hc).1
 have hv14:=(Cz (Nat.lt_trans (B8 hb) (by decide))).2 v hv
 rw[Vc hn hm hh,uZ hv14]
 exact Qe ⟨c,hc,Yi hb (λa ha=>(hh a ha).lt) hv h⟩
end
section
open PySem
theorem N1{α β:Type}{w:Wc}{st:Stmt}{sc:Scope}{fr:List β→A1}{f:α→List β}{i:α→PyData}{σ:Sg}{m N:Nat}(hm:∀it,(f it).length≤m){items:List α}:∀{acc:List β},
  (∀it∈items,∀acc:List β,acc.length≤N→Bd w st sc (i it) (fr acc) σ .nx (fr (acc++f it)) σ)→acc.length+m*items.length≤N→Lp w st sc (items.map i) (fr acc) σ .nx (fr (acc++items.flatMap f)) σ:=by
 induction items with
 |nil=>exactλη η=>.nil (by rw[List.flatMap_nil,List.append_nil];exact .refl)
 |cons it r ih=>exactλ{acc} h hl=>.go (h it (.head _) _ (Ag (Nat.le_add_right _ _) hl)) (by
   rw[List.flatMap_cons,← List.append_assoc]
   refine ih (λit hi=>h it (.tail _ hi)) (Ag ?_ hl)
   rw[List.length_append,Nat.add_assoc]
   exact Nat.add_le_add_left (Ag (Nat.add_le_add_right (hm it) _) (Nat.le_of_eq (Nat.add_comm _ _))) _)
theorem lD{us:List Int}{v:Nat}{σ:Sg}:Cp .In (.d (iN v)) (.d (.list (us.map O4))) σ=some (B0 us v)∧Cp .NotIn (.d (iN v)) (.d (.list (us.map O4))) σ=some (!B0 us v):=by
 have h1:(us.map O4).all Dv=true:=by
  rw[List.all_map,List.all_eq_true]
  exactλη η=>rfl
 have h2:((us.map O4).any λy=>PyData.eqv y (iN v))=B0 us v:=by rw[List.any_map];rfl
 have e:Cp .In (.d (iN v)) (.d (.list (us.map O4))) σ=some (B0 us v):=by
  show(match Dv (iN v)&&(us.map O4).all Dv with|true=>some ((us.map O4).any λy=>PyData.eqv y (iN v))|false=>none)=_
  rw[h1,h2];rfl
 exact⟨e,congrArg (λo=>o1 o λc=>some !c) e⟩
theorem Px(b:Nat→Bool)(c:Nat):(Bv b c).length≤3:=by
 unfold Bv
 cases(Nat.beq c 1||Nat.beq c 21)&&(b 0||b 1)
 ·cases !Bf c||(Nat.blt 1 (hC c).length|| !b ((hC c).getD 0 0))
  ·exact Nat.zero_le 3
  ·exact Nat.succ_le_succ (Nat.zero_le 2)
 ·rw[List.length_cons,List.length_map]
  exact Nat.succ_le_succ (List.length_filter_le (λv=>!b v) [0,1])
noncomputable def K7(cs:List Nat)(us:List Int)(s1:SK)(acc:List Nat):A1:=[("rows",s1,.d (.list (cs.map F4))),("units",.val,.d (.list (us.map O4))),("out",.own,.d (.list (acc.map F4)))]
noncomputable def yG(v:Nat):PyData:=.tuple [.str "value",F2 [v]]
noncomputable def fC(c:Nat):A1:=[("sort",.val,.d (sD c)),("held",.val,.d (F2 (hC c)))]
section
variable(k:Nat){σ:Sg}
theorem dG{cs:List Nat}{us:List Int}{s1:SK}{c:Nat}{acc:List Nat}(hc:c<34)(hne:hC c≠[])(hl:acc.length≤300):
  Bd (cx (k+1)) (Eb "_law_left" 813) (Cg "_law_left") (F4 c) (K7 cs us s1 acc) σ .nx (K7 cs us s1 (acc++Bv (B0 us) c)) σ:=by
 have iu:=λv=>lD (us:=us) (v:=v) (σ:=σ)
 have q1:=C52 (σ:=σ) hc
 have q3:=C51 (σ:=σ) (Nat.lt_trans hc (by decide))
 have ow:=Eg (os:=acc) (g:=F4) (x:=c) (kd:=.fr) rfl (Ag hl (by decide))
 have fin:∀{X:List Nat},acc++Bv (B0 us) c=X→Bd (cx (k+1)) (Eb "_law_left" 813) (Cg "_law_left") (F4 c) (K7 cs us s1 acc) σ .nx (K7 cs us s1 X++fC c) σ→Bd (cx (k+1)) (Eb "_law_left" 813) (Cg "_law_left") (F4 c) (K7 cs us s1 acc) σ .nx (K7 cs us s1 (acc++Bv (B0 us) c)) σ:=λe h=>e▸h.sub .refl (.app rfl)
 cases q:Nat.beq c 1||Nat.beq c 21<;>rw[q]at q1
 ·obtain⟨v0,e0⟩:∃v,(hC c)[0]?=some v:=⟨_,List.getElem?_eq_getElem (List.length_pos_iff.mpr hne)⟩
  refine fin (X:=cond (!Bf c||(Nat.blt 1 (hC c).length|| !B0 us v0)) (acc++[c]) acc) (by
   unfold Bv
   rw[q,List.getD_eq_getElem?_getD,e0]
   show acc++(match !Bf c||(Nat.blt 1 (hC c).length|| !B0 us v0)with|true=>[c]|false=>[])=_
   cases !Bf c||(Nat.blt 1 (hC c).length|| !B0 us v0)
   ·exact List.append_nil _
   ·rfl) ?_
  exact Qi (.b 0 (.b 1 (.b 2 .l .l) .l) .l) (en:=bs [!Bf c,Nat.blt 1 (hC c).length,!B0 us v0]) (f:=λη=>.nx) (l':=λe=>K7 cs us s1 (cond (e 0||(e 1||e 2)) (acc++[c]) acc)++fC c) (σ':=λη=>σ)
   [.b 814011035 q1,.d 817013028 0 q3,.g 817032045 1 (Kv (g:=iN) (l:=hC c) 1),.v 817049056 (A15 (σ:=σ) (i:=0) e0),.d 817049069 2 (iu v0).2,.v 818012036 ow] λe=>by kernel_rfl
 ·have ow1:=λo=>Eg (os:=acc) (g:=F4) (x:=o) (kd:=.fr) rfl (Ag hl (by decide))
  have ow2:=λ(o:Nat)(g:Nat→Nat)(h:((([0,1].filter λv=>!B0 us v).map g).map F4)=([0,1].filter λv=>!B0 us v).map yG)=>I7 (os:=acc++[o]) (g:=F4) (x:=.list (([0,1].filter λv=>!B0 us v).map yG)) (ys:=([0,1].filter λv=>!B0 us v).map g) (kd:=.fr) (congrArg some h.symm) (by rw[List.length_append];exact Ag (Nat.add_le_add_right hl 1) (by decide)) (Ag (by rw[List.length_map];exact List.length_filter_le _ _) (show 2≤4000 by decide))
  have comp:=λ(c o:Nat)(h:Mc (fF X (lc "_law_left" 816023074) (Cg "_law_left") (K7 cs us s1 (acc++[o])++fC c) ⟨σ,[],[]⟩)=Hc (fF (X (w:=wE (cx (k+1)) (bs [B0 us 0,B0 us 1]))) (lc "_law_left" 816023074) (Cg "_law_left") (K7 cs us s1 (acc++[o])++fC c) ⟨σ,[],[]⟩) ([0,1].map iN) σ)=>
   xK (l:=K7 cs us s1 (acc++[o])++fC c) "_law_left" 816023074 [] (by kernel_rfl) h (Fo.flt [0,1] (p:=λv=>!B0 us v) (i:=iN) (f:=yG) λv η=>Ze (.b 0 .l .l) (en:=bs [!B0 us v]) (y:=λe=>cond (e 0) (some (yG v)) none) (σ':=λη=>σ) [.d 816059073 0 (iu v).2] λe=>by kernel_rfl)
  have mp:∀g:Nat→Nat,F4 (g 0)=yG 0→F4 (g 1)=yG 1→(([0,1].filter λv=>!B0 us v).map g).map F4=([0,1].filter λv=>!B0 us v).map yG:=λg h0 h1=>by
   rw[List.map_map]
   exact List.map_congr_left λv hv=>(Mw (M0 hv).1).elim (λe=>e▸h0) λe=>Hd e▸h1
  rcases(Ho q).imp Bu Bu with rfl|rfl
  ·refine fin (X:=cond (B0 us 0||B0 us 1) ((acc++[11])++([0,1].filter λv=>!B0 us v).map λv=>4+v) (acc++[1])) (by
    unfold Bv
    cases B0 us 0||B0 us 1
    ·rfl
    ·exact(List.append_assoc acc [11] _).symm) ?_
   exact Qi (.b 0 (.b 1 .l .l) .l) (en:=bs [B0 us 0,B0 us 1]) (f:=λη=>.nx) (l':=λe=>K7 cs us s1 (cond (e 0||e 1) ((acc++[11])++([0,1].filter λv=>!B0 us v).map λv=>4+v) (acc++[1]))++fC 1) (σ':=λη=>σ)
    [.d 814041051 0 (iu 0).1,.d 814055065 1 (iu 1).1,.v 815012072 (ow1 11),.k (comp 1 11 (by kernel_rfl)),.v 816012075 (ow2 11 _ (mp (λv=>4+v) rfl rfl)),.v 818012036 ow] λe=>by kernel_rfl
  ·refine fin (X:=cond (B0 us 0||B0 us 1) ((acc++[34])++([0,1].filter λv=>!B0 us v).map λv=>36-v) (acc++[21])) (by
    unfold Bv
    cases B0 us 0||B0 us 1
    ·rfl
    ·exact(List.append_assoc acc [34] _).symm) ?_
   exact Qi (.b 0 (.b 1 .l .l) .l) (en:=bs [B0 us 0,B0 us 1]) (f:=λη=>.nx) (l':=λe=>K7 cs us s1 (cond (e 0||e 1) ((acc++[34])++([0,1].filter λv=>!B0 us v).map λv=>36-v) (acc++[21]))++fC 21) (σ':=λη=>σ)
    [.d 814041051 0 (iu 0).1,.d 814055065 1 (iu 1).1,.v 815012072 (ow1 34),.k (comp 21 34 (by kernel_rfl)),.v 816012075 (ow2 34 _ (mp (λv=>36-v) rfl rfl)),.v 818012036 ow] λe=>by kernel_rfl
theorem dH{cs:List Nat}{us:List Int}{kd:Kd}(hc:∀c∈cs,c<34∧hC c≠[])(hl:cs.length≤60):
  (cx (k+2)).call "_law_left" [(.d (.list (cs.map F4)),kd),(.d (.list (us.map O4)),.fr)] σ=some ((.d (.list ((cs.flatMap (Bv (B0 us))).map F4)),.fr),σ):=by
 have lp:=P3 (σ0:=σ) (σ1:=σ) (l:=K7 cs us (Du kd) []) (σ:=σ) (x:=.list (cs.map F4)) [] (by kernel_rfl) (by kernel_rfl) (by cases kd<;>kernel_rfl) rfl (N1 (σ:=σ) (m:=3) (N:=300) (w:=cx (k+1)) (fr:=K7 cs us (Du kd)) (i:=F4) (Px (B0 us)) (λc hm acc ha=>dG k (hc c hm).1 (hc c hm).2 ha) (items:=cs) (acc:=[]) (Ag (Nat.le_of_eq (Nat.zero_add _)) (Ag (Nat.mul_le_mul_left 3 hl) (by decide))))
 exact xF [.s 813 lp] (by cases kd<;>kernel_rfl)
end
end
section
open PySem
theorem Rn(c:Nat):(hC c).length≤14:=Hx (P:=λl:List Nat=>l.length≤14) (by decide) (by decide) c
theorem Kb(c:Nat)(xs:List Nat):(Fs c xs).length≤14:=by
 have h:=Rn c
 have P:∀{b:Bool}{x y:List Nat},x.length≤14→y.length≤14→(cond b x y).length≤14:=λ{b} η η hx hy=>match b with
  |true=>hx
  |false=>hy
 have f:(Eu c xs).length≤14:=Ag (List.length_filter_le _ _) h
 exact P h (P (P h (P (P (by decide) h) f)) (P (P f h) (P (P h (by decide)) (P h f))))
theorem K8{α:Type}{f:α→List Nat}{m n:Nat}(h:∀a,(f a).length≤m){l:List α}:l.length≤n→(l.flatMap f).length≤m*n:=λhn=>by
 refine Ag ?_ (Nat.mul_le_mul_left m hn)
 clear hn
 induction l with
 |nil=>exact Nat.zero_le _
 |cons a l ih=>
  rw[List.flatMap_cons,List.length_append,List.length_cons,Nat.mul_succ,Nat.add_comm]
  exact Nat.add_le_add ih (h a)
noncomputable def Hy(cs:List Nat)(ms hs:List Bi)(s1 s2 s3 s4:SK)(d:Bool)(L acc:List Nat):A1:=[("rows",s1,.d (.list (cs.map F4))),("missed",s2,.d (.list (ms.map Ah))),("hit",s3,.d (.list (hs.map Ah))),("default",.val,.d (.bool d)),("left",s4,.d (.list (L.map F4))),("out",.own,.d (.list (acc.map iN)))]
section
variable(k:Nat){σ:Sg}{cs:List Nat}{ms hs:List Bi}{s1 s2 s4:SK}{kd3:Kd}{d:Bool}{L:List Nat}
theorem uY{c:Nat}(hc:c<38)(hx:∀a∈hs,∀x∈a.2.2,x<22)(hl:hs.length≤8){acc:List Nat}(ha:acc.length≤3200):
  Bd (cx (k+3)) (Eb "_law_due" 843) (Cg "_law_due") (F4 c) (Hy cs ms hs s1 s2 (Du kd3) s4 d L acc) σ .nx (Hy cs ms hs s1 s2 (Du kd3) s4 d L (acc++hs.flatMap λa=>Fs c a.2.2)) σ:=by
 have lp:=P3 (l:=Hy cs ms hs s1 s2 (Du kd3) s4 d L acc++fC c) (σ:=σ) (σ0:=σ) (σ1:=σ) (x:=.list (hs.map Ah)) [] (by kernel_rfl) (by kernel_rfl) (by cases kd3<;>kernel_rfl) rfl (N1 (σ:=σ) (m:=14) (N:=3400) (w:=cx (k+3)) (st:=Eb "_law_due" 844) (sc:=Cg "_law_due") (fr:=λacc=>Hy cs ms hs s1 s2 (Du kd3) s4 d L acc++fC c) (f:=λa:Bi=>Fs c a.2.2) (i:=Ah) (λa=>Kb c a.2.2) (items:=hs) (acc:=acc) (λa hm acc ha=>.sub (Je (l':=(Hy cs ms hs s1 s2 (Du kd3) s4 d L (acc++Fs c a.2.2)++fC c)++([("ask",.val,.d (Ah a))]:A1)) [.c (nA (k+1) (σ:=σ) (t:=a.1) (tw:=a.2.1) hc (hx a hm)),.v 845012049 (I7 (os:=acc) (g:=iN) (kd:=(Yd c a.2.2 (eH c a.2.2)).2) (A85 c a.2.2).2 (Ag ha (by decide)) (Ag (Kb c a.2.2) (by decide)))] (by kernel_rfl)) .refl (.app rfl)) (Ag (Nat.add_le_add ha (Nat.mul_le_mul_left 14 hl)) (by decide)))
 exact .sub (Je (l':=Hy cs ms hs s1 s2 (Du kd3) s4 d L (acc++hs.flatMap λa=>Fs c a.2.2)++fC c) [.s 844 lp] (by kernel_rfl)) .refl (.app rfl)
theorem sJ{b:Nat→Bool}{cs:List Nat}(hc:∀c∈cs,c<34∧hC c≠[]):∀c∈cs.flatMap (Bv b),c<38:=λc hm=>by
 obtain⟨c0,h0,h1⟩:=List.mem_flatMap.mp hm
 have:=(hc c0 h0).1
 unfold Bv at h1
 revert h1
 cases(Nat.beq c0 1||Nat.beq c0 21)&&(b 0||b 1)
 ·cases !Bf c0||(Nat.blt 1 (hC c0).length|| !b ((hC c0).getD 0 0))<;>intro h1
  ·exact absurd h1 List.not_mem_nil
  ·exact Hd h1▸Nat.lt_trans this (by decide)
 ·intro h1
  rcases Mw h1 with rfl|h1
  ·cases Nat.beq c0 1<;>decide
  ·obtain⟨v,hv,rfl⟩:=aG h1
   exact(by decide:∀b,∀v∈[0,1],(match b with|true=>4+v|false=>36-v) <38) (Nat.beq c0 1) v (M0 hv).1
theorem mU(d:Bool){kd kd2:Kd}(hc:∀c∈cs,c<34∧hC c≠[])(hx:∀a∈hs,∀x∈a.2.2,x<22)(hl:cs.length≤8)(hl2:hs.length≤8):
  (cx (k+4)).call "_law_due" [(.d (.list (cs.map F4)),kd),(.d (.list (ms.map Ah)),kd2),(.d (.list (hs.map Ah)),kd3),(.d (.bool d),.cl)] σ=some ((.d (.list ((mV d cs ms hs).map iN)),.fr),σ):=by
 have cu:Ce (cx (k+3)) "_law_due" 841027058 [("rows",Du kd,.d (.list (cs.map F4))),("missed",Du kd2,.d (.list (ms.map Ah))),("hit",Du kd3,.d (.list (hs.map Ah))),("default",.val,.d (.bool d))] σ ((ms.map Bo).map O4) σ:=by
  exact(List.map_map).symm▸xK "_law_due" 841027058 [] (by kernel_rfl) (by cases kd2<;>kernel_rfl) (Fo.map (i:=Ah) λa η=>xT [])
 have eL:(cx (k+3)).call "_law_left" [Xq "rows" (Du kd,.d (.list (cs.map F4))),(.d (.list ((ms.map Bo).map O4)),.fr)] σ=some ((.d (.list ((Br cs ms).map F4)),.fr),σ):=by
  cases kd<;>exact dH (k+1) hc (Ag hl (by decide))
 have hL:(Br cs ms).length≤24:=K8 (n:=8) (Px _) hl
 have row:∀{s4:SK}{src:List Nat},(∀c∈src,c<38)→src.length≤24→Lp (cx (k+3)) (Eb "_law_due" 843) (Cg "_law_due") (src.map F4) (Hy cs ms hs (Du kd) (Du kd2) (Du kd3) s4 d (Br cs ms) []) σ .nx (Hy cs ms hs (Du kd) (Du kd2) (Du kd3) s4 d (Br cs ms) (F8 src hs)) σ:=λ{s4 src} h1 h2=>
  N1 (σ:=σ) (m:=112) (N:=3200) (fr:=Hy cs ms hs (Du kd) (Du kd2) (Du kd3) s4 d (Br cs ms)) (i:=F4) (acc:=[]) (λc=>K8 (n:=8) (λa=>Kb c a.2.2) hl2) (λc hm acc ha=>uY k (h1 c hm) hx hl2 ha) (Ag (Nat.le_of_eq (Nat.zero_add _)) (Ag (Nat.mul_le_mul_left 112 h2) (by decide)))
 have fin:∀(s4:SK)(out:List Nat),Ce (cx (k+3)) "_law_due" 849011044 (Hy cs ms hs (Du kd) (Du kd2) (Du kd3) s4 d (Br cs ms) out) σ (((List.range 14).filter (A3 out)).map iN) σ:=λs4 out=>
  xK "_law_due" 849011044 [] (by kernel_rfl) (by kernel_rfl) (Fo.flt (List.range 14) (p:=A3 out) (i:=iN) (f:=iN) λv η=>Ze (.b 0 .l .l) (en:=bs [A3 out v]) (σ':=λη=>σ) (y:=λe=>cond (e 0) (some (iN v)) none) [.d 849035043 0 (Rh (σ:=σ))] λe=>by kernel_rfl)
 have hcs:∀c∈cs,c<38:=λc h=>Nat.lt_trans (hc c h).1 (by decide)
 cases d
 ·have lp:=xL (l0:=Hy cs ms hs (Du kd) (Du kd2) (Du kd3) .val false (Br cs ms) []) (l:=Hy cs ms hs (Du kd) (Du kd2) (Du kd3) .own false (Br cs ms) []) (σ:=σ) (x:=.list ((Br cs ms).map F4)) [] (by kernel_rfl) (by kernel_rfl) (by kernel_rfl) rfl (row (sJ hc) hL)
  exact xF [.k cu,.c eL,.s 843 lp,.k (fin .val (F8 (Br cs ms) hs))]
 ·have lp:=P3 (l:=Hy cs ms hs (Du kd) (Du kd2) (Du kd3) .own true (Br cs ms) []) (σ:=σ) (x:=.list (cs.map F4)) [] (by kernel_rfl) (by kernel_rfl) (by cases kd<;>kernel_rfl) rfl (row hcs (Ag hl (by decide)))
  have lp2:=xL (l0:=Hy cs ms hs (Du kd) (Du kd2) (Du kd3) .val true (Br cs ms) (F8 cs hs)) (l:=Hy cs ms hs (Du kd) (Du kd2) (Du kd3) .own true (Br cs ms) (F8 cs hs)) (σ:=σ) (x:=.list ((Br cs ms).map F4)) [] (by kernel_rfl) (by kernel_rfl) (by kernel_rfl) rfl (N1 (σ:=σ) (m:=14) (N:=3200) (w:=cx (k+3)) (st:=Eb "_law_due" 847) (sc:=Cg "_law_due") (fr:=Hy cs ms hs (Du kd) (Du kd2) (Du kd3) .val true (Br cs ms)) (i:=F4) (f:=hC) Rn (λc hm acc ha=>.sub (Je (l':=Hy cs ms hs (Du kd) (Du kd2) (Du kd3) .val true (Br cs ms) (acc++hC c)++fC c) [.v 848012028 (I7 (os:=acc) (g:=iN) (x:=F2 (hC c)) (kd:=.cl) rfl (Ag ha (by decide)) (Ag (Rn c) (by decide)))] (by kernel_rfl)) .refl (.app rfl)) (Ag (Nat.add_le_add (K8 (m:=112) (n:=8) (λc=>K8 (n:=8) (λa=>Kb c a.2.2) hl2) hl) (Nat.mul_le_mul_left 14 hL)) (by decide)))
  exact xF [.k cu,.c eL,.s 843 lp,.s 847 lp2,.k (fin .val (F8 cs hs++(Br cs ms).flatMap hC))]
end
end
section
open PySem
theorem b7{t:Nat}{σ:Sg}(h:t∉Le):Cp .In (.d (iN t)) (.d c7) σ=some false:=by
 show some (Lb (.int (Int.ofNat t)) (Le.map λc=>(iN c,F2 (hC c)))).isSome=_
 rw[Ka]
 cases e:Az Le (Int.ofNat t)
 ·rfl
 ·exact absurd (Gc.mp e) h
theorem Tc{l:List Nat}(h:l.length≤60)(kd:Kd)(σ:Sg):Gj .srt [(V.d (.list (l.map iN)),kd)] σ=some (.d (.list ((Dz l.reverse).map iN)),.fr):=by
 show o1 (srt (l.map iN)) _=_
 rw[Zo h];rfl
noncomputable def oB(acc:List Nat)(c:Nat):List Nat:=acc++(hC c).filter λv=>!A3 acc v
theorem vQ{α β:Type}{w:Wc}{st:Stmt}{sc:Scope}{fr:β→A1}{g:β→α→β}{i:α→PyData}{σ:Sg}{P:β→Prop}{items:List α}:∀{b:β},(∀it∈items,∀b,P b→P (g b it)∧Bd w st sc (i it) (fr b) σ .nx (fr (g b it)) σ)→P b→P (items.foldl g b)∧Lp w st sc (items.map i) (fr b) σ .nx (fr (items.foldl g b)) σ:=by
 induction items with
 |nil=>exactλη p=>⟨p,.nil .refl⟩
 |cons it r ih=>exactλh p=>⟨(ih (λa ha=>h a (.tail _ ha)) (h it (.head _) _ p).1).1,.go (h it (.head _) _ p).2 (ih (λa ha=>h a (.tail _ ha)) (h it (.head _) _ p).1).2⟩
noncomputable def HP(acc:List Nat):Prop:=acc.Nodup∧∀v∈acc,v<14
theorem HP.len{acc:List Nat}(h:HP acc):acc.length≤14:=Ag (h.1.length_le_of_subset λv hv=>En (h.2 v hv)) (Nat.le_of_eq List.length_range)
theorem HP.add{acc:List Nat}(h:HP acc){c:Nat}(hc:c<38):HP (oB acc c):=
 ⟨List.nodup_append.mpr ⟨h.1,((Cz hc).1.imp Nat.ne_of_lt).sublist List.filter_sublist,λa ha b hb e=>by
  have:=(M0 hb).2
  rw[← e,At.mpr ha]at this
  cases this⟩,λv hv=>(sB hv).elim (h.2 v) λhv=>(Cz hc).2 v (M0 hv).1⟩
theorem W7{ext:List PyData}{v:Nat}{ps:List Nat}:∀{acc:List Nat},v∈ps.foldl (λacc p=>oB acc (A5 ext p)) acc↔v∈acc∨∃p∈ps,v∈hC (A5 ext p):=by
 induction ps with
 |nil=>exact⟨.inl,λh=>h.elim id λ⟨_,h,_⟩=>absurd h List.not_mem_nil⟩
 |cons p ps ih=>
  refine ih.trans ⟨λh=>h.elim (λh=>(sB h).elim .inl λh=>.inr ⟨p,.head _,(M0 h).1⟩) λ⟨q,hq,h⟩=>.inr ⟨q,.tail _ hq,h⟩,λh=>?_⟩
  have add:∀{acc:List Nat},v∈hC (A5 ext p)→v∈oB acc (A5 ext p):=λ{acc} h=>List.mem_append.mpr (by
   cases e:A3 acc v
   ·exact .inr (oR ⟨h,by rw[e];rfl⟩)
   ·exact .inl (At.mp e))
  rcases h with h|⟨q,hq,h⟩
  ·exact .inl (List.mem_append_left _ h)
  ·cases hq with
   |head=>exact .inl (add h)
   |tail _ hq=>exact .inr ⟨q,hq,h⟩
section
variable(k:Nat){ext:List PyData}{nums:List Nat}{n:Nat}
theorem Q2:(A0++[2]).map (λt=>(cx (k+1)).call "_law_held" [wV,iV t] (St ext (A8 nums n)))=(A0++[2]).map λt=>some ((.d (.list ((hC t).map iN)),.fr),St ext (A8 nums n)):=by kernel_rfl
theorem L1{t c:Nat}(h:Ae ext t c):(cx (k+2)).call "_law_held" [wV,iV t] (St ext (A8 nums n))=some ((.d (.list ((hC c).map iN)),.fr),St ext (A8 nums n)):=by
 have ib:∀i,Cp .In (.d (iN (i+34))) (.d c7) (St ext (A8 nums n))=some false:=λi=>b7 λh=>Nat.not_lt.mpr (Nat.le_add_left 34 i) ((by decide:∀c∈Le,c<34) _ h)
 refine C1 (P:=λt c=>(cx (k+2)).call "_law_held" [wV,iV t] (St ext (A8 nums n))=some ((.d (.list ((hC c).map iN)),.fr),St ext (A8 nums n))) (λt ht=>Ay (Q2 (k+1)) (List.mem_append_left _ ht)) ?_ ?_ ?_ ?_ h<;>intro i hi<;>exact xF [.v 770010026 (Bj (A8 nums n) hi),.b 771007021 (ib i)]
noncomputable def uG(t:Nat)(row:PyData)(acc:List Nat):A1:=[("w",.val,.o 16),("t",.val,.d (iN t)),("row",.val,.d row),("out",.own,.d (.list (acc.map iN)))]
theorem Z8{ps:List Nat}(hp:∀p∈ps,∃c,Ae ext p c){l:List Nat}(hl:l.Pairwise (· <·))(h:∀v,v∈l↔v<14∧∃p∈ps,v∈hC (A5 ext p)):l=HS (A9 ext ps):=F3 hl (List.pairwise_lt_range.sublist List.filter_sublist) λv=>by
 unfold HS
 rw[h,List.mem_filter,List.mem_range,← Ew hp λc=>A3 (hC c) v,List.any_eq_true]
 exact and_congr_right λη=>exists_congr λη=>and_congr_right λη=>At.symm
theorem L0{t:Nat}{S:CS}(h:R ext t S):(cx (k+3)).call "_law_held" [wV,iV t] (St ext (A8 nums n))=some ((.d (.list ((HS S).map iN)),.fr),St ext (A8 nums n)):=by
 obtain⟨ps,hK,rfl⟩:=h.ids
 have hpp:∀{p c},Ae ext p c→Ae ext p (A5 ext p):=E7
 have h14:∀{p c v:Nat},Ae ext p c→v∈hC (A5 ext p)→v<14:=λh hv=>(Cz (C3 (hpp h))).2 _ hv
 cases hK with
 |never=>exact(Z8 (ext:=ext) (ps:=[]) (H0) .nil λv=>⟨(λh=>nomatch h),λh=>h.2.elim λη h=>nomatch h.1⟩)▸Ay (Q2 (k+2)) (show 2∈A0++[2]by decide)
 |one hp=>exact(Z8 (λp h=>Hd h▸⟨_,hp⟩) (Cz (C3 (hpp hp))).1 λv=>⟨λh=>⟨h14 hp h,_,.head _,h⟩,λ⟨_,p,hm,h⟩=>Hd hm▸h⟩)▸L1 (k+1) (hpp hp)
 |many hr _ _ hp=>
  have ib:Cp .In (.d (iN t)) (.d c7) (St ext (A8 nums n))=some false:=b7 λh=>by
   have k:=(by decide +kernel:∀c∈Le,c<34∧(match base[c]? with|some (.tuple (.int 6::_))=>true|_=>false)=false) t h
   exact Ea hr k.1 k.2 rfl
  have lo:=vQ (P:=HP) (w:=cx (k+2)) (st:=Eb "_law_held" 775) (sc:=Cg "_law_held") (fr:=uG t (Bz ps)) (g:=λacc p=>oB acc (A5 ext p)) (i:=iN) (σ:=St ext (A8 nums n)) (items:=ps) (b:=[]) (λp hm acc hP=>(hp p hm).elim λc hc=>⟨hP.add (C3 (hpp hc)),.sub (Je (l':=uG t (Bz ps) (oB acc (A5 ext p))++([("one",.val,.d (iN p))]:A1))
   [.c (L1 k (nums:=nums) (n:=n) (hpp hc)),.k (l:=uG t (Bz ps) acc++([("one",.val,.d (iN p))]:A1)) (xK "_law_held" 776023069 (σ:=St ext (A8 nums n)) [.c (L1 k (nums:=nums) (n:=n) (hpp hc))] (by kernel_rfl) (by kernel_rfl) (Fo.flt (hC (A5 ext p)) (p:=λv=>!A3 acc v) (i:=iN) (f:=iN) λv η=>Ze (.b 0 .l .l) (en:=bs [!A3 acc v]) (σ':=λη=>St ext (A8 nums n)) (y:=λe=>cond (e 0) (some (iN v)) none) [.d 776056068 0 (Hp (σ:=St ext (A8 nums n)))] λe=>by kernel_rfl)),.v 776012070 (I7 (os:=acc) (g:=iN) (kd:=.fr) (x:=.list (((hC (A5 ext p)).filter λv=>!A3 acc v).map iN)) rfl (Ag hP.len (by decide)) (Ag (List.length_filter_le _ _) (Ag (Rn _) (by decide))))] (by kernel_rfl)) .refl (.app rfl)⟩) ⟨.nil,(by decide)⟩
  have lp:=P3 (l:=uG t (Bz ps) []) (σ:=St ext (A8 nums n)) (x:=.tuple (ps.map iN)) [] (by kernel_rfl) (by kernel_rfl) (by kernel_rfl) rfl lo.2
  have e:=Z8 hp (Jv ((List.reverse_perm _).nodup_iff.mpr lo.1.1)) λv=>by
   rw[Dj,List.mem_reverse,W7]
   exact⟨λh=>⟨lo.1.2 v (W7.mpr h),h.elim (λh=>nomatch h) id⟩,λh=>.inr h.2⟩
  exact(e)▸xF [.v 770010026 (Bj (A8 nums n) hr),.b 771007021 ib,.s 775 lp,.v 777015026 (Tc (Ag lo.1.len (by decide)) (.al "out") (St ext (A8 nums n)))]
end
end
section
open PySem
theorem sV{l:List Nat}{v:Nat}{σ:Sg}:Cp .In (.d (iN v)) (.d (F2 l)) σ=some (A3 l v):=by
 show iB (Dv (iN v)&&(l.map iN).all Dv) (some ((l.map iN).any λy=>PyData.eqv y (iN v)))=_
 rw[Re,O1];rfl
theorem wU{α:Type}{P:List α→Prop}(h0:P [])(h1:∀a,P [a])(h2:∀a b l,P (a::b::l))(l:List α):P l:=List.casesOn l h0 λa l=>List.casesOn l (h1 a) (h2 a)
structure FI where
 t:Nat
 ms:List Bi
 hs:List Bi
 wh:List Nat
noncomputable def frH(p:FI)(d:Bool):A1:=[("w",.val,.o 16),("t",.val,.d (iN p.t)),("missed",.bor,.d (.list (p.ms.map Ah))),("hit",.bor,.d (.list (p.hs.map Ah))),("default",.val,.d (.bool d)),("tab",.val,.o 0)]
noncomputable def frI(p:FI)(d:Bool):A1:=frH p d++([("whole",.val,.d (F2 p.wh))]:A1)
noncomputable def frS(p:FI)(d:Bool)(st:List Nat):A1:=frI p d++([("stay",.own,.d (.list (st.map iN)))]:A1)
noncomputable def bL(p:FI)(d:Bool)(st:List Nat)(r:Nat):A1:=frS p d st++([("rest",.val,.d (iN r))]:A1)
noncomputable def mI(p:FI)(d:Bool)(st:List Nat)(r:Nat)(os:List Nat):A1:=bL p d st r++([("out",.own,.d (.list (os.map iN)))]:A1)
noncomputable def f7(ext:List PyData)(X:CS)(st:List Nat):Prop:=match st with
 |[]=>R ext 2 X
 |[p]=>R ext p X
 |_=>st.Pairwise (· <·)∧(∀p∈st,p∈A0)∧A9 ext st=X
noncomputable def vX(b:Bool)(X:CS):CS:=match b with
 |true=>N (B5 [X,one 3])
 |false=>X
theorem pF{b:Bool}{X:CS}(h:Nm X):Nm (vX b X):=match b with
 |true=>Fw _
 |false=>h
section
variable(k m:Nat){ext:List PyData}{nums:List Nat}{n:Nat}(p:FI){d:Bool}{st:List Nat}{S X:CS}{C:Prop}{w:Wc}{σ:Sg}
theorem qE:∀{st:List Nat},(∀p∈st,p∈A0)→st.Pairwise (· <·)→A9 ext st=X→f7 ext X st:=λ{st}=>wU (P:=λst=>(∀p∈st,p∈A0)→st.Pairwise (· <·)→A9 ext st=X→f7 ext X st) (λη η e=>e▸K.never.r) (λη hb η e=>e▸(K.one (.base (hb _ (.head _)))).r) (λη η η hb hs e=>⟨hs,hb,e⟩) st
theorem lI:f7 ext X st→Tq (m+1) ext→(∀r e,Ls (cx (k+1)) "_law_ifs" 854 (frS p d st) (St ext (A8 nums n)) .nx (bL p d st r) (St e (A8 nums n))→Ge ext e→Tq m e→R e r X→C)→C:=
 wU (P:=λst=>f7 ext X st→Tq (m+1) ext→(∀r e,Ls (cx (k+1)) "_law_ifs" 854 (frS p d st) (St ext (A8 nums n)) .nx (bL p d st r) (St e (A8 nums n))→Ge ext e→Tq m e→R e r X→C)→C)
  (λh b z=>z 2 ext (xS "_law_ifs" 854 [] (by kernel_rfl)) (Gr.refl (Tb.wf b)).ge (b.le (Nat.le_succ m)) h)
  (λp h b z=>z p ext (xS "_law_ifs" 854 [] (by kernel_rfl)) (Gr.refl (Tb.wf b)).ge (b.le (Nat.le_succ m)) h)
  (λp q l h b z=>(Nf k (A8 nums n) (b.b (n:=1) (by decide)) (ks:=[.int 6,.tuple ((p::q::l).map iN)]) (T1 _)).elim λr h'=>h'.elim λe h'=>z r e (xS "_law_ifs" 854 [.t 854007020 (Kv (g:=iN) (l:=p::q::l) 1),.c h'.1] (by kernel_rfl)) h'.2.1.ge (b.gr h'.2.1 (by decide))
   (h.2.2▸Cy h'.2.1 (λx hx=>⟨x,.base (h.2.1 x hx)⟩)▸(K.many h'.2.2 (Nat.le_add_left 2 _) h.1 λx hx=>⟨x,.base (h.2.1 x hx)⟩).r)) st
theorem A28{s:Nat}{Z:CS}{hs:List Bi}{st:Stmt}{sc:Scope}{fr:List Nat→A1}{tl:Sg}(turn:∀{a:Bi}{u e e2}{os:List Nat},os.length≤4000→(cx (k+19)).call "narrow_equal" [Ax,iV s,iV a.1,bT,bT] (St e tl)=some ((.d (iN u),.cl),St e2 tl)→Bd w st sc (Ah a) (fr os) (St e tl) .nx (fr (os++[u])) (St e2 tl)):∀{e:List PyData}{os:List Nat}{Ss:List CS},R e s Z→Nm Z→(∀a∈hs,Kh e a.1 (aS a))→Tq (Oh hs m) e→A6 (R e) os Ss→os.length+hs.length≤4000→
  (∀os' e',Lp w st sc (hs.map Ah) (fr os) (St e tl) .nx (fr os') (St e' tl)→Ge e e'→Tq m e'→A6 (R e') os' (Ss++hs.map λa=>Dw (aS a) Z)→C)→C:=by
 induction hs with
 |nil=>exactλ{e os Ss} η η η b ha η z=>z os e (.nil .refl) (Gr.refl (Tb.wf b)).ge b ((List.append_nil Ss).symm▸ha)
 |cons a hs ih=>exactλ{e os Ss} hR hn hT b ha hl z=>(fI k _ hR hn (hT a (.head _)) b).el λu e2 h g b2 h2=>ih (hR.ge g) hn (λa ha=>(hT a (.tail _ ha)).ge g) b2 ((ha.imp λη η r=>r.ge g).append (.cons h2 .nil)) (Ag (Nat.le_of_eq (by rw[List.length_append,Nat.add_assoc];exact congrArg (os.length+·) (Nat.add_comm 1 hs.length))) hl) λos' e' lp g' b' h'=>z os' e' (.go (turn (Ag (Nat.le_add_right _ _) hl) h) lp) (g.trans g') b' (Eq.mp (congrArg (A6 (R e') os') (List.append_assoc Ss [_] _)) h')
theorem lH{b3:Bool}{r:Nat}(hw:A3 p.wh 3=b3)(hX:R ext r X)(b:Tq (m+1) ext)(z:∀r' e,Ls (cx (k+20)) "_law_ifs" 860 (bL p d st r) (St ext (A8 nums n)) .nx (bL p d st r') (St e (A8 nums n))→Ge ext e→Tq m e→R e r' (vX b3 X)→C):C:=
 have i3:Cp .In (.d (.int 3)) (.d (F2 p.wh)) (St ext (A8 nums n))=some b3:=sV.trans (congrArg some hw)
 match b3,i3,z with
 |false,i3,z=>z r ext (xS "_law_ifs" 860 [.b 860007020 i3] (by kernel_rfl)) (Gr.refl (Tb.wf b)).ge (b.le (Nat.le_succ m)) hX
 |true,i3,z=>(Sk.of (B2 (k+12) (A8 nums n) (ts:=[r,3]) (Ss:=[X,one 3]) (x:=.list [iN r,.int 3]) (kd:=.fr) rfl (b.b (by decide)) (.cons hX (.cons (Ae.r (.base (by decide))) .nil))) b (by decide)).el λu e h g b2 hR=>z u e (xS "_law_ifs" 860 [.b 860007020 i3,.c h] (by kernel_rfl)) g b2 hR
theorem gZ{ps:List Nat}(hb:∀p∈ps,p∈A0):A9 ext (ps.filter λp=>!Nat.beq p 3)=λc=>A9 ext ps c&&!Nat.beq c 3:=funext λc=>by
 unfold A9
 rw[List.any_filter]
 induction ps with
 |nil=>rfl
 |cons p ps ih=>
  rw[List.any_cons,List.any_cons,ih λq h=>hb q (.tail _ h),Aq (.base (hb p (.head _)))]
  cases e:Nat.beq p c
  ·cases Nat.beq p 3<;>rfl
  ·rw[Bu e];cases Nat.beq c 3<;>simp
noncomputable def IfG(k m:Nat)(nums:List Nat)(n:Nat)(p:FI)(d:Bool)(S:CS)(ext:List PyData):Prop:=Sk m (A8 nums n) ext (sY d (p.ms.map aS) (p.hs.map aS) S) ((cx (k+21)).call "_law_ifs" [(.o 16,.cl),iV p.t,(.d (.list (p.ms.map Ah)),.al "missed"),(.d (.list (p.hs.map Ah)),.al "hit"),(.d (.bool d),.cl)] (St ext (A8 nums n)))
theorem B96(r:Nat)(σ:Sg):Ls w "_law_ifs" 862 (bL p d st r) σ .nx (mI p d st r (cond d [r] [])) σ:=match d with
 |false=>xS "_law_ifs" 862 [] (by kernel_rfl)
 |true=>xS "_law_ifs" 862 [] (by kernel_rfl)
theorem B95{os os':List Nat}{r:Nat}{σ':Sg}(h:Lp w (Eb "_law_ifs" 863) (Cg "_law_ifs") (p.hs.map Ah) (mI p d st r os) σ .nx (mI p d st r os') σ'):Ls w "_law_ifs" 863 (mI p d st r os) σ .nx (mI p d st r os') σ':=P3 (x:=.list (p.hs.map Ah)) [] (by kernel_rfl) (by kernel_rfl) (by kernel_rfl) rfl h
theorem B97{r r':Nat}{σ':Sg}(h:Lp w (Eb "_law_ifs" 858) (Cg "_law_ifs") (p.ms.map Ah) (bL p d st r) σ .nx (bL p d st r') σ'):Ls w "_law_ifs" 858 (bL p d st r) σ .nx (bL p d st r') σ':=P3 (x:=.list (p.ms.map Ah)) [] (by kernel_rfl) (by kernel_rfl) (by kernel_rfl) rfl h
theorem A25{a:Bi}{u r:Nat}{e e2:List PyData}{os:List Nat}(ho:os.length≤4000)(h:(cx (k+20)).call "narrow_equal" [Ax,iV (cond d p.t r),iV a.1,bT,bT] (St e (A8 nums n))=some ((.d (iN u),.cl),St e2 (A8 nums n))):Bd (cx (k+20)) (Eb "_law_ifs" 863) (Cg "_law_ifs") (Ah a) (mI p d st r os) (St e (A8 nums n)) .nx (mI p d st r (os++[u])) (St e2 (A8 nums n)):=match d,h with
 |false,h=>.sub (Je (l':=mI p false st r (os++[u])++([("ask",.val,.d (Ah a))]:A1)) [.c h,.v 864008089 (E8 (x:=u) ho)] (by kernel_rfl)) .refl (.app rfl)
 |true,h=>.sub (Je (l':=mI p true st r (os++[u])++([("ask",.val,.d (Ah a))]:A1)) [.c h,.v 864008089 (E8 (x:=u) ho)] (by kernel_rfl)) .refl (.app rfl)
theorem gR{Hs:List Bi}:N (B5 (cond d [X] []++Hs.map λa=>Dw (aS a) (cond d S X)))=swO d (Hs.map aS) S X:=by
 rw[show(Hs.map λa=>Dw (aS a) (cond d S X))=(Hs.map aS).map λU=>Dw U (cond d S X)from(List.map_map (g:=λU=>Dw U (cond d S X)) (f:=aS) (l:=Hs)).symm]
 cases d<;>rfl
theorem lL{r:Nat}(hS:R ext p.t S)(hn:Nm S)(hX:R ext r X)(nX:Nm X)(hh:∀a∈p.hs,Kh ext a.1 (aS a))(hl:p.hs.length≤100)(b:Tq (Oh p.hs (m+1)) ext)(z:∀os u e e',Ls (cx (k+20)) "_law_ifs" 863 (mI p d st r (cond d [r] [])) (St ext (A8 nums n)) .nx (mI p d st r os) (St e (A8 nums n))→
  (cx (k+20)).call "union" [Ad,(.d (.list (os.map iN)),.al "out")] (St e (A8 nums n))=some ((.d (iN u),.cl),St e' (A8 nums n))→Ge ext e'→Tq m e'→R e' u (swO d (p.hs.map aS) S X)→C):C:=
 have hZ:∀d:Bool,(R ext (cond d p.t r) (cond d S X)∧Nm (cond d S X))∧A6 (R ext) (cond d [r] []) (cond d [X] [])∧(cond d [r] []).length≤1:=λd=>match d with
  |false=>⟨⟨hX,nX⟩,.nil,Nat.zero_le 1⟩
  |true=>⟨⟨hS,hn⟩,.cons hX .nil,Nat.le_refl 1⟩
 A28 (k+1) (m+1) (A25 k p) (hZ d).1.1 (hZ d).1.2 hh b (hZ d).2.1 (Ag (Nat.add_le_add (hZ d).2.2 hl) (by decide)) λos e lp g b1 ha=>
  (Sk.of (B2 (k+12) (A8 nums n) (x:=.list (os.map iN)) (kd:=.al "out") rfl (b1.b (by decide)) ha) b1 (by decide)).el λu e2 h g2 b2 hR=>z os u e e2 (B95 p lp) h (g.trans g2) b2 (gR▸hR)
theorem B98:Ce w "_law_ifs" 853011048 (frI p d) σ ((p.wh.filter λp=>!Nat.beq p 3).map iN) σ:=xK "_law_ifs" 853011048 [] (by kernel_rfl) (by kernel_rfl) (Fo.flt p.wh (p:=λp=>!Nat.beq p 3) (i:=iN) (f:=iN) λv η=>Ze (.b 0 .l .l) (en:=bs [!Nat.beq v 3]) (σ':=λη=>σ) (y:=λe=>cond (e 0) (some (iN v)) none) [.g 853036047 0 (congrArg not (Y2 v 3))] λe=>by kernel_rfl)
theorem A26{a:Bi}{t t2:Nat}{e e2:List PyData}(h:(cx (k+20)).call "narrow_equal" [Ax,iV t,iV a.1,bF,bT] (St e (A8 nums n))=some ((.d (iN t2),.cl),St e2 (A8 nums n))):Bd (cx (k+20)) (Eb "_law_ifs" 858) (Cg "_law_ifs") (Ah a) (bL p d st t) (St e (A8 nums n)) .nx (bL p d st t2) (St e2 (A8 nums n)):=.sub (Je (l':=bL p d st t2++([("ask",.val,.d (Ah a))]:A1)) [.c h] (by kernel_rfl)) .refl (.app rfl)
theorem sX(hw:A3 p.wh 3=S 3)(hst:(p.wh.filter λp=>!Nat.beq p 3)=st)(hS:R ext p.t S)(hn:Nm S)(hX:f7 ext (λc=>S c&&!Nat.beq c 3) st)(hm:∀a∈p.ms,Kh ext a.1 (aS a))(hh:∀a∈p.hs,Kh ext a.1 (aS a))(hl:p.hs.length≤100)(b:Tq (Oh p.ms (Oh p.hs (m+1)+1)+1) ext)
  (l852:Ls (cx (k+20)) "_law_ifs" 852 (frH p d) (St ext (A8 nums n)) .nx (frI p d) (St ext (A8 nums n))):IfG k m nums n p d S ext:=
 have hnX:Nm λc=>S c&&!Nat.beq c 3:=hn.sub λc e=>(Ab e).1
 have c853:Ce (cx (k+20)) "_law_ifs" 853011048 (frI p d) (St ext (A8 nums n)) (st.map iN) (St ext (A8 nums n)):=hst▸B98 p
 lI (d:=d) (nums:=nums) (n:=n) (k+19) _ p hX b λr e l854 g b1 hR=>Pu (tl:=A8 nums n) (fr:=bL p d st) (k+2) _ (A26 k p) hR hnX (λa ha=>(hm a ha).ge g) b1 λr1 e1 lp1 g1 b2 hR1=>
  lH (d:=d) (st:=st) (nums:=nums) (n:=n) k _ p hw hR1 b2 λr2 e2 l860 g2 b3 hR2=>lL (d:=d) (st:=st) (nums:=nums) (n:=n) k m p (hS.ge ((g.trans g1).trans g2)) hn hR2 (pF (Og hnX)) (λa ha=>(hh a ha).ge ((g.trans g1).trans g2)) hl b3 λos u e3 e4 l863 h g3 b4 hR4=>
   ⟨u,e4,xF [.o l852,.k c853,.o l854,.o (B97 p lp1),.o l860,.o (B96 (d:=d) (st:=st) p r2 (St e2 (A8 nums n))),.o l863,.c h],((g.trans g1).trans g2).trans g3,b4,hR4⟩
theorem lJ{t:Nat}{ms hs:List Bi}{ps:List Nat}(hK:K ext t ps)(hb:∀p∈ps,p∈A0)(hn:Nm (A9 ext ps))(hm:∀a∈ms,Kh ext a.1 (aS a))(hh:∀a∈hs,Kh ext a.1 (aS a))(hl:hs.length≤100)(b:Tq (Oh ms (Oh hs (m+1)+1)+1) ext):IfG k m nums n ⟨t,ms,hs,[]⟩ d (A9 ext ps) ext:=by
 have fin:=λwh h1 h2=>sX k m (nums:=nums) (n:=n) (d:=d) ⟨t,ms,hs,wh⟩ (ext:=ext) (S:=A9 ext ps) h1 rfl hK.r hn h2 hm hh hl b
 have hw:A3 ps 3=A9 ext ps 3:=Bw λp hp=>congrArg (Nat.beq · 3) (Aq (.base (hb p hp))).symm
 have hf:f7 ext (λc=>A9 ext ps c&&!Nat.beq c 3) (ps.filter λp=>!Nat.beq p 3):=qE (λp h=>hb p (M0 h).1) (hK.sorted.sublist List.filter_sublist) (gZ hb)
 have hr0:=Nt hK hb
 cases hK with
 |never=>exact fin [2] rfl K.never.r (xS "_law_ifs" 852 [] (by kernel_rfl))
 |one hp=>exact hr0.elim λrow h=>h.elim λf h=>fin [t] hw hf (xS "_law_ifs" 852 [.v 852030041 (Bj (A8 nums n) h.1),.v 852030044 (h.2.1 (St ext (A8 nums n))),.t 852030055 (c:=false) (Bool.not_eq_true' _▸h.2.2.1)] (by kernel_rfl))
 |many hr h2 h3 h4=>exact fin ps hw hf (xS "_law_ifs" 852 [.v 852030041 (Bj (A8 nums n) hr),.v 852012023 (Bj (A8 nums n) hr)] (by kernel_rfl))
end
end
section
open PySem
theorem okL:∀l:List Nat,Dv (.list (l.map iN))=true:=by
 have h:∀l:List Nat,PyData.canLayAll0 (l.map iN)=true∧PyData.depthAll (l.map iN)=0:=λl=>by
  induction l with
  |nil=>exact⟨rfl,rfl⟩
  |cons a l ih=>exact⟨ih.1,congrArg (Nat.max 0) ih.2⟩
 exactλl=>congr (congrArg and (h l).1) (congrArg (λn=>decide (n+1≤60)) (h l).2)
theorem kB(l m:List Nat):PyData.eqv (.list (l.map iN)) (.list (m.map iN))=(l==m):=by
 induction l generalizing m with
 |nil=>cases m<;>rfl
 |cons a l ih=>cases m with
  |nil=>rfl
  |cons b m=>exact congr (congrArg and ((Mq a b).trans (Bool.eq_iff_iff.mpr ⟨λh=>beq_iff_eq.mpr (Bu h),λh=>beq_iff_eq.mp h▸Nat.beq_refl a⟩))) (ih m)
theorem R9{l m:List Nat}{σ:Sg}:Cp .Eq (.d (.list (l.map iN))) (.d (.list (m.map iN))) σ=some (l==m):=(Lc (okL l) (okL m)).trans (congrArg some (kB l m))
theorem Su{α:Type}{w:Wc}{st:Stmt}{sc:Scope}{l:A1}{i:α→PyData}{σ:Sg}{items:List α}(h:∀it∈items,Bd w st sc (i it) l σ .nx l σ):Lp w st sc (items.map i) l σ .nx l σ:=by
 induction items with
 |nil=>exact .nil .refl
 |cons a r ih=>exact .go (h a (.head _)) (ih λx hx=>h x (.tail _ hx))
noncomputable def Tk(m:Nat)(tl:Sg)(ext:List PyData)(o:Option (RV×Sg)):Prop:=∃ext',o=some ((.d (.bool true),.cl),St ext' tl)∧Ge ext ext'∧Tq m ext'
structure CI where
 t:Nat
 cs:List Nat
 ms:List Bi
 hs:List Bi
noncomputable def frC(p:CI)(d:Bool):A1:=[("w",.val,.o 16),("t",.val,.d (iN p.t)),("rows",.bor,.d (.list (p.cs.map F4))),("missed",.bor,.d (.list (p.ms.map Ah))),("hit",.bor,.d (.list (p.hs.map Ah))),("default",.val,.d (.bool d))]
noncomputable def A62(p:CI)(d:Bool)(u:Nat)(H:List Nat):A1:=frC p d++([("got",.val,.d (iN u)),("held",.own,.d (.list (H.map iN)))]:A1)
noncomputable def P8(p:CI)(d:Bool)(u:Nat)(H:List Nat)(c:Nat):A1:=A62 p d u H++([("sort",.val,.d (sD c)),("values",.val,.d (F2 (hC c)))]:A1)
section
variable(k m:Nat){ext:List PyData}{nums:List Nat}{n:Nat}(p:CI){d:Bool}{u c v:Nat}{H:List Nat}{S:CS}{w:Wc}{σ:Sg}
noncomputable def Kq(v:Nat)(hs:List Bi):Bool:=Nat.blt 0 (hs.filter λa=>A3 (Bg a.2.2) v).length
noncomputable def Sy(v:Nat)(ms:List Bi):Bool:=Nat.beq (ms.filter (Gd v)).length 0
theorem xP(d:Bool)(u:Nat)(H:List Nat)(c v:Nat)(σ:Sg):Ce w "_law_clause" 873019085 (P8 p d u H c++([("v",.val,.d (iN v))]:A1)) σ ((p.ms.filter (Gd v)).map Ah) σ:=xK "_law_clause" 873019085 [] (by kernel_rfl) (by kernel_rfl) (Fo.flt p.ms (p:=Gd v) (i:=Ah) (f:=Ah) λa η=>Ze (.b 0 (.b 1 .l .l) .l) (en:=bs [Bg a.2.2==[v],Bg a.2.2==[]]) (σ':=λη=>σ) (y:=λe=>cond (e 0||e 1) (some (Ah a)) none) [.d 873045063 0 (R9 (m:=[v]) (σ:=σ)),.d 873067084 1 (R9 (m:=[]) (σ:=σ))] λe=>by kernel_rfl)
theorem xO(d:Bool)(u:Nat)(H:List Nat)(c v:Nat)(σ:Sg):Ce w "_law_clause" 874024064 (P8 p d u H c++([("v",.val,.d (iN v)),("gone",.own,.d (.list ((p.ms.filter (Gd v)).map Ah)))]:A1)) σ ((p.hs.filter λa=>A3 (Bg a.2.2) v).map Ah) σ:=xK "_law_clause" 874024064 [] (by kernel_rfl) (by kernel_rfl) (Fo.flt p.hs (p:=λa=>A3 (Bg a.2.2) v) (i:=Ah) (f:=Ah) λa η=>Ze (.b 0 .l .l) (en:=bs [A3 (Bg a.2.2) v]) (σ':=λη=>σ) (y:=λe=>cond (e 0) (some (Ah a)) none) [.d 874047063 0 (Rh (σ:=σ))] λe=>by kernel_rfl)
noncomputable def Ja(d M Z:Bool):Bool:=cond d (M||Z) (M&&Z)
theorem A92:Bd w (Eb "_law_clause" 872) (Cg "_law_clause") (iN v) (P8 p d u H c) σ (cond (Ja d (Kq v p.hs) (Sy v p.ms)&&!A3 H v) (.ret (.d (.bool false),.cl)) .nx) (P8 p d u H c) σ:=by
 refine .sub (l':=P8 p d u H c++([("v",.val,.d (iN v)),("gone",.own,.d (.list ((p.ms.filter (Gd v)).map Ah))),("meets",.val,.d (.bool (Kq v p.hs))),("comes",.val,.d (.bool (Ja d (Kq v p.hs) (Sy v p.ms))))]:A1)) ?_ .refl (.app rfl)
 cases d
 ·exact Qi (.b 0 (.b 2 .l .l) (.b 1 (.b 2 .l .l) (.b 2 .l .l))) (en:=bs [Kq v p.hs,Sy v p.ms,!A3 H v]) (f:=λe=>cond (Ja false (e 0) (e 1)&&e 2) (.ret (.d (.bool false),.cl)) .nx) (σ':=λη=>σ) (l':=λe=>P8 p false u H c++([("v",.val,.d (iN v)),("gone",.own,.d (.list ((p.ms.filter (Gd v)).map Ah))),("meets",.val,.d (.bool (e 0))),("comes",.val,.d (.bool (Ja false (e 0) (e 1))))]:A1))
   [.k (xP p false u H c v σ),.k (xO p false u H c v σ),.g 874020069 0 (Kv (g:=Ah) (l:=p.hs.filter λa=>A3 (Bg a.2.2) v) 0),.g 875070084 1 (Ia (g:=Ah) (l:=p.ms.filter (Gd v)) 0),.d 876025038 2 (Hp (σ:=σ))] λe=>by kernel_rfl
 ·exact Qi (.b 0 (.b 1 (.b 2 .l .l) (.b 2 .l .l)) (.b 2 .l .l)) (en:=bs [Kq v p.hs,Sy v p.ms,!A3 H v]) (f:=λe=>cond (Ja true (e 0) (e 1)&&e 2) (.ret (.d (.bool false),.cl)) .nx) (σ':=λη=>σ) (l':=λe=>P8 p true u H c++([("v",.val,.d (iN v)),("gone",.own,.d (.list ((p.ms.filter (Gd v)).map Ah))),("meets",.val,.d (.bool (e 0))),("comes",.val,.d (.bool (Ja true (e 0) (e 1))))]:A1))
   [.k (xP p true u H c v σ),.k (xO p true u H c v σ),.g 874020069 0 (Kv (g:=Ah) (l:=p.hs.filter λa=>A3 (Bg a.2.2) v) 0),.g 875029043 1 (Ia (g:=Ah) (l:=p.ms.filter (Gd v)) 0),.d 876025038 2 (Hp (σ:=σ))] λe=>by kernel_rfl
theorem nG:I0 d p.ms p.hs v=Ja d (Kq v p.hs) (Sy v p.ms):=match d with
 |false=>rfl
 |true=>rfl
theorem C20(hB:∀v∈hC c,I0 d p.ms p.hs v=true→A3 H v=true):Ls w "_law_clause" 872 (P8 p d u H c) σ .nx (P8 p d u H c) σ:=
 P3 (x:=F2 (hC c)) [] (by kernel_rfl) (by kernel_rfl) (by kernel_rfl) rfl (Su λv hv=>by
  have t:=A92 p (d:=d) (u:=u) (c:=c) (v:=v) (H:=H) (w:=w) (σ:=σ)
  rw[← nG]at t
  have h:=hB v hv
  revert t h
  cases I0 d p.ms p.hs v
  ·exactλt η=>t
  ·exactλt h=>by rw[h rfl]at t;exact t)
theorem C21(hB:∀c∈p.cs,∀v∈hC c,I0 d p.ms p.hs v=true→A3 H v=true):Ls w "_law_clause" 871 (A62 p d u H) σ .nx (A62 p d u H) σ:=
 P3 (x:=.list (p.cs.map F4)) [] (by kernel_rfl) (by kernel_rfl) (by kernel_rfl) rfl (Su λc hc=>.sub (Je (l':=P8 p d u H c) [.o (C20 p (u:=u) (σ:=σ) (hB c hc))] (by kernel_rfl)) .refl (.app rfl))
theorem Vn(f:Str)(key:Nat)(l:A1)(as:List Bi)(hc:lc f key=.ListComp (Py (lc f key)) (J2 (lc f key)) (Um (lc f key)) (lc f key).pos)(h:Mc (fF (X (w:=w)) (lc f key) (Cg f) l ⟨σ,[],[]⟩)=Hc (fF (X (w:=w)) (lc f key) (Cg f) l ⟨σ,[],[]⟩) (as.map Ah) σ)(t:∀a,Mc (gH (X (w:=w)) (lc f key) l (Ah a) ⟨σ,[],[]⟩)=Hc (gH (X (w:=w)) (lc f key) l (Ah a) ⟨σ,[],[]⟩) (some (iN a.1)) σ):Ce w f key l σ (as.map λa=>iN a.1) σ:=xK f key [] hc h (Fo.map λa η=>xT [] (t a))
theorem K.ge{a b:List PyData}(g:Ge a b){t:Nat}{ps:List Nat}(h:K a t ps):K b t ps:=g.elim λη g=>h.mono g
theorem Yk{x0 x1 x2:Str}{e1 e2:List PyData}(r1:(cx (k+21)).call "narrow_switch" [Ax,iV p.t,(.d (.list (p.ms.map λa=>iN a.1)),.fr),(.d (.list (p.hs.map λa=>iN a.1)),.fr),(.d (.bool d),.cl)] (St ext (A8 nums n))=some ((.d (iN u),.cl),St e1 (A8 nums n)))
  (r2:(cx (k+21)).call "_law_ifs" [(.o 16,.cl),iV p.t,(.d (.list (p.ms.map Ah)),.al "missed"),(.d (.list (p.hs.map Ah)),.al "hit"),(.d (.bool d),.cl)] (St e1 (A8 nums n))=some ((.d (iN u),.cl),St e2 (A8 nums n)))
  (r3:(cx (k+21)).call "_law_held" [wV,iV u] (St e2 (A8 nums n))=some ((.d (.list (H.map iN)),.fr),St e2 (A8 nums n)))
  (r4:(cx (k+21)).call "_law_due" [(.d (.list (p.cs.map F4)),.al "rows"),(.d (.list (p.ms.map Ah)),.al "missed"),(.d (.list (p.hs.map Ah)),.al "hit"),(.d (.bool d),.cl)] (St e2 (A8 nums n))=some ((.d (.list (H.map iN)),.fr),St e2 (A8 nums n)))
  (hB:∀c∈p.cs,∀v∈hC c,I0 d p.ms p.hs v=true→A3 H v=true):(cx (k+22)).call "_law_clause" [wV,iV p.t,(.d (.list (p.cs.map F4)),.al x0),(.d (.list (p.ms.map Ah)),.al x1),(.d (.list (p.hs.map Ah)),.al x2),(.d (.bool d),.cl)] (St ext (A8 nums n))=some ((.d (.bool true),.cl),St e2 (A8 nums n)):=
 xF [.k (Vn (σ:=St ext (A8 nums n)) "_law_clause" 867038066 (frC p d) p.ms (by kernel_rfl) (by kernel_rfl) λη=>by kernel_rfl),.k (Vn (σ:=St ext (A8 nums n)) "_law_clause" 867068093 (frC p d) p.hs (by kernel_rfl) (by kernel_rfl) λη=>by kernel_rfl),.c r1,.c r2,.t 868007050 (congrArg not (Da u)),.c r3,.o (C21 p (d:=d) (u:=u) (σ:=St e2 (A8 nums n)) hB),.c r4,.b 878011055 ((R9 (σ:=St e2 (A8 nums n))).trans (congrArg some (beq_self_eq_true H)))]
theorem Vj{x0 x1 x2:Str}{ps:List Nat}(hK:K ext p.t ps)(hn:Nm (A9 ext ps))(hb:∀q∈ps,q∈A0)(hm:∀a∈p.ms,Bc ext a)(hh:∀a∈p.hs,Bc ext a)(hl:p.hs.length≤8)(hc:∀c∈p.cs,c<34∧hC c≠[])(hcl:p.cs.length≤8)(b:Tq (Oh p.ms (Oh p.hs (Oh p.ms (Oh p.hs (m+1)+1)+1+1)+1)) ext)
  (hA:sY d (p.ms.map aS) (p.hs.map aS) (A9 ext ps)=Gv d (p.ms.map aS) (p.hs.map aS) (A9 ext ps)) (hB:∀c∈p.cs,∀v∈hC c,I0 d p.ms p.hs v=true→A3 (HS (Gv d (p.ms.map aS) (p.hs.map aS) (A9 ext ps))) v=true) (hD:HS (Gv d (p.ms.map aS) (p.hs.map aS) (A9 ext ps))=mV d p.cs p.ms p.hs):
  Tk m (A8 nums n) ext ((cx (k+22)).call "_law_clause" [wV,iV p.t,(.d (.list (p.cs.map F4)),.al x0),(.d (.list (p.ms.map Ah)),.al x1),(.d (.list (p.hs.map Ah)),.al x2),(.d (.bool d),.cl)] (St ext (A8 nums n))):=
 (Fg (k+1) _ (tid:=λa:Bi=>a.1) (U:=aS) (xb:=.list (p.ms.map λa=>iN a.1)) (xh:=.list (p.hs.map λa=>iN a.1)) (kb:=.fr) (kh:=.fr) (tl:=A8 nums n) rfl rfl hK.r hn (λa ha=>(hm a ha).tst) (λa ha=>(hh a ha).tst) (Ag hl (by decide)) d b).el λu e1 r1 g1 b1 h1=>
  (lJ (d:=d) (nums:=nums) (n:=n) k m (hK.ge g1) hb (g1.elim (λη g=>Cy g hK.pts)▸hn) (λa ha=>(hm a ha).tst.ge g1) (λa ha=>(hh a ha).tst.ge g1) (Ag hl (by decide)) b1).el λu2 e2 r2 g2 b2 h2=>by
   rw[g1.elim λη g=>Cy g hK.pts]at h2
   obtain rfl:=R.inj (Tb.wf b2) (h1.ge g2) (hA▸h2)
   exact⟨e2,Yk k p r1 r2 (L0 (k+18) (h1.ge g2)) (hD▸mU (k+17) d hc (λa ha=>(hh a ha).lt) hcl hl) hB,g1.trans g2,b2⟩
end
end
section
open PySem
theorem Ol(A:CS):B5 [A]=A:=funext λc=>Bool.or_false _
theorem C46(d:Bool)(Us Hs:List CS)(S:CS):Nm (Gv d Us Hs S):=match d with
 |true=>Fw _
 |false=>Fw _
theorem pY{d:Bool}{Us Hs:List CS}{S:CS}:N (B5 [Gv d Us Hs S])=Gv d Us Hs S:=(congrArg N (Ol _)).trans (C46 d Us Hs S)
theorem yO{Us Vs Hs:List CS}{S:CS}(hn:Nm S)(hl:Lo S):Gv false Vs Hs (Bb Us S)=Gv false (Us++Vs) Hs S:=congrArg (λX=>N (B5 (Hs.map λU=>Dw U X))) (N5 hn hl)
theorem Sq{L M:List CS}(h:M=L.map N):N (B5 M)=N (B5 L):=h▸y1 L
theorem vK{α:Type}{U:α→CS}{hs:List α}{Us:List CS}{S:CS}:N (B5 (hs.map λa=>Gv false Us [U a] S))=Gv false Us (hs.map U) S:=
 (Sq (L:=(hs.map U).map λH=>Dw H (Bb Us S)) (by
  rw[List.map_map,List.map_map]
  exact List.map_congr_left λa η=>congrArg N (Ol _)))
theorem vJ{α:Type}{U:α→CS}{hs:List α}{Us:List CS}{S:CS}(hn:Nm S)(hl:Lo S):N (B5 ((hs.map λa=>Gv false [] [U a] S)++[Bb Us S]))=Gv true Us (hs.map U) S:=
 (Sq (L:=((hs.map U).map λH=>Dw H S)++[Bb Us S]) (by
  rw[List.map_append,List.map_map,List.map_map]
  refine congr (congrArg _ (List.map_congr_left λa η=>?_)) (congrArg (λX=>[X]) (G1 hn).symm)
  show N (B5 [Dw (U a) (Bb [] S)])=N (Dw (U a) S)
  rw[Ol,cJ hn hl]))
theorem gQ{d:Bool}{Us Hs:List CS}{cs:List Nat}(hc:∀c∈cs,c<38)(hH:∀U∈Hs,Nm U)(hn:Nm (lS cs)):N (B5 (cs.map λc=>Gv d Us Hs (one c)))=Gv d Us Hs (lS cs):=by
 rw[Sq (M:=cs.map λc=>Gv d Us Hs (one c)) (L:=cs.map (wF d (Jg Us) Hs)) (by
  rw[List.map_map]
  exact List.map_congr_left λc h=>(N7 hH (j3 (hc c h)) (Lo.one (hc c h))).trans (congrArg N (Ak (hc c h)))),N7 hH hn (Ui hc)]
 refine congrArg N (funext λe=>?_)
 unfold B5 lift lS
 rw[List.any_map,Bool.eq_iff_iff,List.any_eq_true,List.any_eq_true]
 exact⟨λ⟨c,h,e1⟩=>⟨c,En (hc c h),Yx ⟨At.mpr h,e1⟩⟩,λ⟨c,_,h⟩=>⟨c,At.mp (Ab h).1,(Ab h).2⟩⟩
theorem Vi(i n:Nat):clipAt n (Int.ofNat i)=min i n:=clipAt_nat n i
section
variable{α:Type}{g:α→PyData}{l:List α}{i:Nat}
theorem Qo:kR (.d (.list (l.map g))) (some (Int.ofNat i)) none=some (.d (.list ((l.drop i).map g)),.fr):=by
 show some (V.d (.list (((l.map g).drop (clipAt (l.map g).length (Int.ofNat i))).take ((l.map g).length-clipAt (l.map g).length (Int.ofNat i)))),Kd.fr)=_
 rw[Vi,List.take_of_length_le (Nat.le_of_eq List.length_drop),List.map_drop]
 rcases Nat.le_total i (l.map g).length with h|h
 ·rw[Nat.min_eq_left h]
 ·rw[Nat.min_eq_right h,List.drop_length,List.drop_eq_nil_of_le h]
theorem Kk:kR (.d (.list (l.map g))) none (some (Int.ofNat i))=some (.d (.list ((l.take i).map g)),.fr):=by
 show some (V.d (.list ((l.map g).take (clipAt (l.map g).length (Int.ofNat i)))),Kd.fr)=_
 rw[Vi,List.map_take]
 rcases Nat.le_total i (l.map g).length with h|h
 ·rw[Nat.min_eq_left h]
 ·rw[Nat.min_eq_right h,List.take_length,List.take_of_length_le h]
theorem wG:A16 (.d (.list (l.map g))) (.d (.int (-1))) none none=some (.d (.list (l.reverse.map g)),.fr):=congrArg (λl=>some (V.d (.list l),Kd.fr)) List.map_reverse.symm
theorem Vk{a b:List α}(h:a.length+b.length≤8000):Ny .Add (.d (.list (a.map g))) (.d (.list (b.map g)))=some (.d (.list ((a++b).map g)),.fr):=by
 have:room (a.map g++b.map g).length=true:=by
  rw[List.length_append,List.length_map,List.length_map]
  exact Nc h
 show o1 (iB (room (a.map g++b.map g).length) _) _=_
 rw[this,List.map_append];rfl
theorem vL(f:α→Bool):(l.drop i++l.take i).any f=l.any f:=by
 rw[List.any_append,Bool.or_comm,← List.any_append,List.take_append_drop]
theorem vN(f:α→Bool):(l++l.take i).any f=l.any f:=by
 rw[List.any_append]
 cases h:(l.take i).any f
 ·exact Bool.or_false _
 ·exact(Bool.or_true _).trans (Qe ((eY h).imp λx h=>⟨List.mem_of_mem_take h.1,h.2⟩)).symm
end
structure HI where
 t:Nat
 g:Nat
 ms:List Bi
 hs:List Bi
noncomputable def tI(a:Bi):PyData:=iN a.1
noncomputable def frX(p:HI)(d:Bool)(how:Nat):A1:=[("w",.val,.o 16),("t",.val,.d (iN p.t)),("how",.val,.d (iN how)),("missed",.bor,.d (.list (p.ms.map Ah))),("hit",.bor,.d (.list (p.hs.map Ah))),("default",.val,.d (.bool d)),("host",.val,.o 15),("tab",.val,.o 0),("rows",.own,.d (.list (p.ms.map tI))),("hot",.own,.d (.list (p.hs.map tI)))]
noncomputable def frG(p:HI)(d:Bool)(how:Nat):A1:=frX p d how++([("got",.val,.d (iN p.g))]:A1)
structure Za(d:Bool)(S:CS)(p:HI)(ext:List PyData):Prop where
 R:R ext p.t S
 nm:Nm S
 lo:Lo S
 T:∀a∈p.ms,Kh ext a.1 (aS a)
 H:∀a∈p.hs,Kh ext a.1 (aS a)
 G:Mine.R ext p.g (Gv d (p.ms.map aS) (p.hs.map aS) S)
 l1:p.ms.length≤4
 l2:p.hs.length≤3
section
variable(k m:Nat){ext:List PyData}{nums:List Nat}{n:Nat}{p:HI}{d:Bool}{S:CS}{w:Wc}{σ:Sg}{C:Prop}{tl:Sg}
theorem Za.ge{e:List PyData}(g:Ge ext e)(h:Za d S p ext):Za d S p e:=⟨h.R.ge g,h.nm,h.lo,λa ha=>(h.T a ha).ge g,λa ha=>(h.H a ha).ge g,h.G.ge g,h.l1,h.l2⟩
theorem Kh.nm{ext:List PyData}{o:Nat}{U:CS}(h:Kh ext o U):Nm U:=h.elim λη h=>h.2.2.2.2
theorem Z0{hs:List Bi}(h:∀a∈hs,Kh ext a.1 (aS a)):∀U∈hs.map aS,Nm U:=λU hU=>(aG hU).elim λa h'=>h'.2▸(h a h'.1).nm
theorem R7{α:Type} [BEq α] [LawfulBEq α]{l l':List α}(h:∀f:α→Bool,l'.any f=l.any f){a:α}(ha:a∈l'):a∈l:=(eY ((h λx=>x==a).symm.trans (Qe ⟨a,ha,beq_self_eq_true a⟩))).elim λx h=>eq_of_beq h.2▸h.1
theorem Vy{α β:Type}{g:α→β}{l l':List α}(h:∀f:α→Bool,l'.any f=l.any f)(f:β→Bool):(l'.map g).any f=(l.map g).any f:=by rw[List.any_map,List.any_map,h]
theorem Za.again(h:Za d S p ext){ms hs:List Bi}(h1:∀f:Bi→Bool,ms.any f=p.ms.any f)(h2:∀f:Bi→Bool,hs.any f=p.hs.any f){xb xh:PyData}{kb kh:Kd}(hxb:Cx xb=some (ms.map tI))(hxh:Cx xh=some (hs.map tI))(hl:hs.length≤4000)(b:Tq (Oh ms (Oh hs (m+1)+1)) ext)
  (z:∀e,(cx (k+21)).call "narrow_switch" [Ax,iV p.t,(.d xb,kb),(.d xh,kh),(.d (.bool d),.cl)] (St ext tl)=some ((.d (iN p.g),.cl),St e tl)→Ge ext e→Tq m e→C):C:=
 (Fg (k+1) m (tid:=λa:Bi=>a.1) (U:=aS) hxb hxh h.R h.nm (λa ha=>h.T a (R7 h1 ha)) (λa ha=>h.H a (R7 h2 ha)) hl d b).el λu e r g b' hR=>
  z e (R.inj (Tb.wf b') (h.G.ge g) (pX (Z0 h.H) (Z0 λa ha=>h.H a (R7 h2 ha)) h.nm h.lo (λf=>(Vy h1 f).symm) (λf=>(Vy h2 f).symm)▸hR)▸r) g b'
theorem Fk{α:Type}(l:List α)(m:Nat):Oh l m=l.length+m:=by
 induction l with
 |nil=>exact(Nat.zero_add m).symm
 |cons a l ih=>exact(congrArg Nat.succ ih).trans (Nat.succ_add _ _).symm
theorem Gu{ms hs:List Bi}{a b c:Nat}(h1:ms.length≤a)(h2:hs.length≤b)(h:a+b+2≤c):Oh ms (Oh hs (m+1)+1)≤m+c:=by
 rw[Fk,Fk]
 exact Ag (Nat.add_le_add h1 (Nat.add_le_add_right (Nat.add_le_add_right h2 _) 1)) (Ag (Nat.le_of_eq (congrArg (· +2) ((Nat.add_assoc a b m).symm.trans (Nat.add_comm (a+b) m)))) (Nat.add_le_add_left h m))
theorem S5{α:Type}{P:α→Prop}{b:Bool}{x y:α}(hx:P x)(hy:P y):P (cond b x y):=Bool.casesOn b hy hx
end
end
section
open PySem
noncomputable def ChQ(k ln:Nat)(p:HI)(d:Bool)(how:Nat)(σ:Sg):Prop:=∃σ',Ls (cx (k+21)) "_law_changed" ln (frG p d how) σ (.ret (.d (.bool true),.cl)) (frG p d how) σ'
section
variable(k:Nat){ext:List PyData}{nums:List Nat}{n:Nat}{p:HI}{d:Bool}{S:CS}
theorem D04(h:Za d S p ext)(b:Tq 30 ext):ChQ k 885 p d 0 (St ext (A8 nums n)):=
 have l1:(p.ms.drop 1++p.ms.take 1).length≤4:=by rw[List.length_append,Nat.add_comm,← List.length_append,List.take_append_drop];exact h.l1
 h.again k 15 (ms:=p.ms.drop 1++p.ms.take 1) (hs:=p.hs) vL (λη=>rfl) (xb:=.list ((p.ms.drop 1++p.ms.take 1).map tI)) (xh:=.list (p.hs.map tI)) (kb:=.fr) (kh:=.al "hot") (tl:=A8 nums n) rfl rfl (Ag h.l2 (by decide)) (b.le (Gu 15 (c:=15) l1 h.l2 (by decide))) λe1 r1 g1 b1=>
  (h.ge g1).again k 0 (ms:=p.ms.reverse) (hs:=p.hs.reverse) (λη=>List.any_reverse) (λη=>List.any_reverse) (xb:=.list (p.ms.reverse.map tI)) (xh:=.list (p.hs.reverse.map tI)) (kb:=.fr) (kh:=.fr) (tl:=A8 nums n) rfl rfl (by rw[List.length_reverse];exact Ag h.l2 (by decide)) (b1.le (Gu 0 (c:=15) (a:=4) (b:=3) (by rw[List.length_reverse];exact h.l1) (by rw[List.length_reverse];exact h.l2) (by decide))) λe2 r2 η η=>
   ⟨St e2 (A8 nums n),xS "_law_changed" 885 [.v 886034042 (Qo (g:=tI) (l:=p.ms) (i:=1)),.v 886045053 (Kk (g:=tI) (l:=p.ms) (i:=1)),.v 886034053 (Vk (g:=tI) (a:=p.ms.drop 1) (b:=p.ms.take 1) (by rw[← List.length_append];exact Ag l1 (by decide))),.c r1,.t 886011075 (congrArg not (Da p.g)),.v 888038048 (wG (g:=tI) (l:=p.ms)),.v 888050059 (wG (g:=tI) (l:=p.hs)),.c r2,.t 888015076 (Da p.g)] (by kernel_rfl)⟩
theorem D03(h:Za d S p ext)(b:Tq 30 ext):ChQ k 889 p d 1 (St ext (A8 nums n)):=
 have l1:(p.ms++p.ms).length≤8:=by rw[List.length_append];exact Nat.add_le_add h.l1 h.l1
 have l2:(p.hs++p.hs.take 1).length≤4:=by rw[List.length_append];exact Nat.add_le_add h.l2 (List.length_take_le 1 _)
 h.again k 0 (ms:=p.ms++p.ms) (hs:=p.hs++p.hs.take 1) (λf=>by rw[List.any_append,Bool.or_self]) vN (xb:=.list ((p.ms++p.ms).map tI)) (xh:=.list ((p.hs++p.hs.take 1).map tI)) (kb:=.fr) (kh:=.fr) (tl:=A8 nums n) rfl rfl (Ag l2 (by decide)) (b.le (Gu 0 (c:=30) l1 l2 (by decide))) λe1 r1 g1 b1=>
  ⟨St e1 (A8 nums n),xS "_law_changed" 889 [.v 890038049 (Vk (g:=tI) (a:=p.ms) (b:=p.ms) (by rw[← List.length_append];exact Ag l1 (by decide))),.v 890057064 (Kk (g:=tI) (l:=p.hs) (i:=1)),.v 890051064 (Vk (g:=tI) (a:=p.hs) (b:=p.hs.take 1) (by rw[← List.length_append];exact Ag l2 (by decide))),.c r1,.t 890015081 (Da p.g)] (by kernel_rfl)⟩
noncomputable def eS{α:Type}:List α→Nat→Nat
 |[],m=>m
 |_::l,m=>eS l m+12
theorem nQ{α:Type}(l:List α)(m:Nat):eS l m=m+12*l.length:=by
 induction l with
 |nil=>rfl
 |cons a l ih=>exact congrArg (· +12) ih
theorem Sb{α:Type}{l:List α}{n:Nat}(m:Nat)(h:l.length≤n):eS l m≤m+12*n:=nQ l m▸Nat.add_le_add_left (Nat.mul_le_mul_left 12 h) m
theorem mC{β:Type}{its:List β}{i:β→PyData}{F:β→CS}{c:Expr}{l:A1}{w:Wc}{tl:Sg}{C:Prop}(m:Nat)(step:∀a∈its,∀{e:List PyData}{m:Nat}{C:Prop},Ge ext e→Tq (m+12) e→(∀t e',Tn w c l (i a) (St e tl) (some (iN t)) (St e' tl)→Ge e e'→Tq m e'→R e' t (F a)→C)→C):∀{e:List PyData},Ge ext e→Tq (eS its m) e→
  (∀os e',Fo w c l (its.map i) (St e tl) (os.map iN) (St e' tl)→Ge e e'→Tq m e'→A6 (R e') os (its.map F)→os.length=its.length→C)→C:=by
 induction its generalizing C with
 |nil=>exactλg b z=>z [] _ .nil (Gr.refl (Tb.wf b)).ge b .nil rfl
 |cons a its ih=>exactλg b z=>step a (.head _) g b λt e1 tn g1 b1 hR=>ih (λa ha=>step a (.tail _ ha)) (g.trans g1) b1 λos e2 fo g2 b2 h hl=>z (t::os) e2 (.cons tn fo) (g1.trans g2) b2 (.cons (hR.ge g2) h) (congrArg Nat.succ hl)
noncomputable def frF(p:HI)(d:Bool)(sp f:Nat):A1:=frG p d 2++([("spot",.val,.d (iN sp)),("first",.val,.d (iN f))]:A1)
theorem aN{α β:Type}{g:α→β}(l:List α)(i:Nat):(l.take i).map g++(l.drop i).map g=l.map g:=by rw[← List.map_append,List.take_append_drop]
theorem bY{C:Prop}{tl:Sg}(h:Za d S p ext)(sp m:Nat)(b:Tq (m+20) ext)(z:∀f u e1 e2 e3,(cx (k+21)).call "narrow_unhit" [Ax,iV p.t,(.d (.list ((p.ms.take sp).map tI)),.fr)] (St ext tl)=some ((.d (iN f),.cl),St e1 tl)→(cx (k+21)).call "narrow_unhit" [Ax,iV f,(.d (.list ((p.ms.drop sp).map tI)),.fr)] (St e1 tl)=some ((.d (iN u),.cl),St e2 tl)→
  (cx (k+21)).call "narrow_unhit" [Ax,iV p.t,(.d (.list (p.ms.map tI)),.al "rows")] (St e2 tl)=some ((.d (iN u),.cl),St e3 tl)→Ge ext e3→Tq m e3→R e3 f (Bb ((p.ms.take sp).map aS) S)→C):C:=by
 have un:∀ms:List Bi,ms.length≤4→∀m,Oh ms (m+1)≤m+5:=λms hms m=>Fk ms (m+1)▸Ag (Nat.add_le_add_right hms (m+1)) (Nat.le_of_eq (Nat.add_comm 4 (m+1)))
 have lt:(p.ms.take sp).length≤4:=Ag (List.length_take_le' sp p.ms) h.l1
 have ld:(p.ms.drop sp).length≤4:=Ag (List.length_drop▸Nat.sub_le _ _) h.l1
 exact(Jk (k+2) (m+14) (tid:=λa:Bi=>a.1) (U:=aS) (x:=.list ((p.ms.take sp).map tI)) (kd:=.fr) rfl h.R h.nm (λa ha=>h.T a (List.mem_of_mem_take ha)) (b.le (Ag (un _ lt (m+14)) (Nat.add_le_add_left (by decide:19≤20) m)))).el λf e1 r1 g1 b1 h1=>
  (Jk (k+2) (m+8) (tid:=λa:Bi=>a.1) (U:=aS) (x:=.list ((p.ms.drop sp).map tI)) (kd:=.fr) rfl h1 (G1 h.nm) (λa ha=>(h.T a (List.mem_of_mem_drop ha)).ge g1) (b1.le (Ag (un _ ld (m+8)) (Nat.add_le_add_left (by decide:13≤14) m)))).el λu e2 r2 g2 b2 h2=>
   (Jk (k+2) m (tid:=λa:Bi=>a.1) (U:=aS) (x:=.list (p.ms.map tI)) (kd:=.al "rows") rfl (h.R.ge (g1.trans g2)) h.nm (λa ha=>(h.T a ha).ge (g1.trans g2)) (b2.le (Ag (un _ h.l1 m) (Nat.add_le_add_left (by decide:5≤8) m)))).el λu3 e3 r3 g3 b3 h3=>
    z f u e1 e2 e3 r1 r2 (R.inj (Tb.wf b3) (h2.ge g3) (((N5 h.nm h.lo).trans (congrArg (λL=>Bb L S) (aN p.ms sp))).symm▸h3)▸r3) ((g1.trans g2).trans g3) b3 (h1.ge (g2.trans g3))
theorem B31{a:Bi}{u sp f:Nat}{e e2:List PyData}{tl:Sg}(h:(cx (k+21)).call "narrow_switch" [Ax,iV p.t,(.d (.list ((cond d [] p.ms).map tI)),cond d .fr (.al "rows")),(.d (.list ([a].map tI)),.fr),bF] (St e tl)=some ((.d (iN u),.cl),St e2 tl)):Tn (cx (k+21)) (lc "_law_changed" 898016094) (frF p d sp f) (tI a) (St e tl) (some (iN u)) (St e2 tl):=by
 revert h
 cases d<;>exactλh=>xT [.c h]
theorem Of{C:Prop}{tl:Sg}(h:Za d S p ext){sp f:Nat}(m:Nat)(b:Tq (m+36) ext)(z:∀os e,Ce (cx (k+21)) "_law_changed" 898016094 (frF p d sp f) (St ext tl) (os.map iN) (St e tl)→Ge ext e→Tq m e→A6 (R e) os (p.hs.map λa=>Gv false ((cond d [] p.ms).map aS) [aS a] S)→os.length≤3→C):C:=
 have hm:∀a∈cond d [] p.ms,a∈p.ms:=S5 (P:=λl=>∀a∈l,a∈p.ms) (H0) λη h=>h
 have hl:(cond d [] p.ms).length≤4:=S5 (P:=λl:List Bi=>l.length≤4) (Nat.zero_le 4) h.l1
 mC (w:=cx (k+21)) (c:=lc "_law_changed" 898016094) (l:=frF p d sp f) (i:=tI) (ext:=ext) (tl:=tl) m (λa ha{e m C} g b z=>(Fg (k+1) m (tid:=λa:Bi=>a.1) (U:=aS) (xb:=.list ((cond d [] p.ms).map tI)) (xh:=.list ([a].map tI)) (kb:=cond d .fr (.al "rows")) (kh:=.fr) rfl rfl (h.R.ge g) h.nm (λa ha=>(h.T a (hm a ha)).ge g) (λx hx=>(h.H x (Hd hx▸ha)).ge g) (Nat.le_of_ble_eq_true rfl) false (b.le (Gu m (b:=1) (hs:=[a]) hl (Nat.le_refl 1) (by decide)))).el λu e2 r g2 b2 hR=>z u e2 (B31 k r) g2 b2 hR) (Gr.refl (Tb.wf b)).ge (b.le (Sb m h.l2)) λos e fo g b2 ha hl=>z os e (xK "_law_changed" 898016094 [] (by kernel_rfl) (by kernel_rfl) fo) g b2 ha (hl▸h.l2)
theorem A91(h:Za false S p ext)(h0:0<nums.length)(h1:nums.length<1000)(h2:n<1000000)(b:Tq 90 ext):ChQ k 891 p false 2 (St ext (A8 nums n)):=
 (B3 (k+20) (ext:=ext) (NI:=((p.ms.map tI).length:Int)+1) (N:=p.ms.length+1) (congrArg (λn:Nat=>(n:Int)+1) (List.length_map _)) h0 h1 h2 (Nat.succ_pos _)).elim λsp r0=>
  bY k h (tl:=A8 nums (n+1)) sp 70 b λf u e1 e2 e3 r1 r2 r3 g b3 hf=>
   (Fg (k+1) 37 (tid:=λa:Bi=>a.1) (U:=aS) (xb:=.list ((p.ms.drop sp).map tI)) (xh:=.list (p.hs.map tI)) (kb:=.fr) (kh:=.al "hot") (tl:=A8 nums (n+1)) rfl rfl hf (G1 h.nm) (λa ha=>(h.T a (List.mem_of_mem_drop ha)).ge g) (λa ha=>(h.H a ha).ge g) (Ag h.l2 (by decide)) false (b3.le (Gu 37 (c:=33) (Ag (List.length_drop▸Nat.sub_le _ _) h.l1) h.l2 (by decide)))).el λu4 e4 r4 g4 b4 hR4=>by
    rw[yO h.nm h.lo,aN]at hR4
    obtain rfl:=R.inj (Tb.wf b4) hR4 ((h.G.ge g).ge g4)
    exact Of k (h.ge (g.trans g4)) (f:=f) (sp:=sp) (tl:=A8 nums (n+1)) 1 b4 λos e5 c5 g5 b5 ha hl=>(Sk.of (B2 (k+13) (A8 nums (n+1)) (x:=.list ((os++[]).map iN)) (kd:=.fr) rfl (b5.b (by decide)) ((List.append_nil os).symm▸ha)) b5 (by decide)).el λu6 e6 r6 g6 b6 hR6=>by
     obtain rfl:=R.inj (Tb.wf b6) (vK▸hR6) ((((h.G.ge g).ge g4).ge g5).ge g6)
     exact⟨St e6 (A8 nums (n+1)),.sub (xS (l':=frG p false 2++([("spot",.val,.d (iN sp)),("first",.val,.d (iN f)),("apart",.own,.d (.list (os.map iN)))]:A1)) "_law_changed" 891 [.c r0.2,.v 893038049 (Kk (g:=tI) (l:=p.ms) (i:=sp)),.c r1,.v 894037048 (Qo (g:=tI) (l:=p.ms) (i:=sp)),.c r2,.c r3,.t 894011080 (congrArg not (Da u)),.v 896054065 (Qo (g:=tI) (l:=p.ms) (i:=sp)),.c r4,.t 896027085 (congrArg not (Da p.g)),.k c5,.v 899026084 (Vk (g:=iN) (a:=os) (b:=[]) (Ag hl (by decide))),.c r6,.t 899015092 (Da p.g)] (by kernel_rfl)) .refl (.app rfl)⟩
theorem A90(h:Za true S p ext)(h0:0<nums.length)(h1:nums.length<1000)(h2:n<1000000)(b:Tq 90 ext):ChQ k 891 p true 2 (St ext (A8 nums n)):=
 (B3 (k+20) (ext:=ext) (NI:=((p.ms.map tI).length:Int)+1) (N:=p.ms.length+1) (congrArg (λn:Nat=>(n:Int)+1) (List.length_map _)) h0 h1 h2 (Nat.succ_pos _)).elim λsp r0=>
  bY k h (tl:=A8 nums (n+1)) sp 70 b λf u e1 e2 e3 r1 r2 r3 g b3 hf=>
   Of k (h.ge g) (f:=f) (sp:=sp) (tl:=A8 nums (n+1)) 34 b3 λos e5 c5 g5 b5 ha hl=>
    (Jk (k+2) 10 (tid:=λa:Bi=>a.1) (U:=aS) (x:=.list (p.ms.map tI)) (kd:=.al "rows") (tl:=A8 nums (n+1)) rfl ((h.R.ge g).ge g5) h.nm (λa ha=>((h.T a ha).ge g).ge g5) (b5.le (Fk p.ms 11▸Ag (Nat.add_le_add_right h.l1 11) (by decide)))).el λu4 e4 r4 g4 b4 hR4=>
     (Sk.of (B2 (k+13) (A8 nums (n+1)) (x:=.list ((os++[u4]).map iN)) (kd:=.fr) rfl (b4.b (by decide)) ((ha.imp λη η r=>r.ge g4).append (.cons hR4 .nil))) b4 (by decide)).el λu6 e6 r6 g6 b6 hR6=>by
      obtain rfl:=R.inj (Tb.wf b6) (vJ h.nm h.lo▸hR6) ((((h.G.ge g).ge g5).ge g4).ge g6)
      exact⟨St e6 (A8 nums (n+1)),.sub (xS (l':=frG p true 2++([("spot",.val,.d (iN sp)),("first",.val,.d (iN f)),("apart",.own,.d (.list (os.map iN)))]:A1)) "_law_changed" 891 [.c r0.2,.v 893038049 (Kk (g:=tI) (l:=p.ms) (i:=sp)),.c r1,.v 894037048 (Qo (g:=tI) (l:=p.ms) (i:=sp)),.c r2,.c r3,.t 894011080 (congrArg not (Da u)),.k c5,.c r4,.v 899026084 (Vk (g:=iN) (a:=os) (b:=[u4]) (Ag (Nat.add_le_add_right hl 1) (by decide))),.c r6,.t 899015092 (Da p.g)] (by kernel_rfl)) .refl (.app rfl)⟩
end
end
section
open PySem
section
variable(k:Nat){ext:List PyData}{nums:List Nat}{n:Nat}{p:HI}{d:Bool}{S:CS}{tl:Sg}
noncomputable def frW(p:HI)(d:Bool)(wh:List Nat):A1:=frG p d 3++([("whole",.val,.d (F2 wh))]:A1)
theorem B30{wh:List Nat}{q u:Nat}{e e2:List PyData}(h:(cx (k+21)).call "narrow_switch" [Ax,iV q,(.d (.list (p.ms.map tI)),.al "rows"),(.d (.list (p.hs.map tI)),.al "hot"),(.d (.bool d),.cl)] (St e tl)=some ((.d (iN u),.cl),St e2 tl)):Tn (cx (k+21)) (lc "_law_changed" 901022085) (frW p d wh) (iN q) (St e tl) (some (iN u)) (St e2 tl):=xT [.c h]
theorem nM(h:Za d S p ext){wh:List Nat}{F:Nat→CS}(hw:wh.length≤38)(hF:∀q∈wh,R ext q (F q)∧Nm (F q))(hS:N (B5 (wh.map λq=>Gv d (p.ms.map aS) (p.hs.map aS) (F q)))=Gv d (p.ms.map aS) (p.hs.map aS) S)(b:Tq 500 ext){C:Prop}(z:∀(os:List Nat) e e',Ce (cx (k+21)) "_law_changed" 901022085 (frW p d wh) (St ext tl) (os.map iN) (St e tl)→(cx (k+21)).call "union" [Ad,(.d (.list (os.map iN)),.fr)] (St e tl)=some ((.d (iN p.g),.cl),St e' tl)→C):C:=
 mC (w:=cx (k+21)) (c:=lc "_law_changed" 901022085) (l:=frW p d wh) (i:=iN) (ext:=ext) (tl:=tl) 1 (λq hq{e m C} g b z=>(Fg (k+1) m (tid:=λa:Bi=>a.1) (U:=aS) (xb:=.list (p.ms.map tI)) (xh:=.list (p.hs.map tI)) (kb:=.al "rows") (kh:=.al "hot") rfl rfl ((hF q hq).1.ge g) (hF q hq).2 (λa ha=>(h.T a ha).ge g) (λa ha=>(h.H a ha).ge g) (Ag h.l2 (by decide)) d (b.le (Gu m h.l1 h.l2 (by decide)))).el λu e2 r g2 b2 hR=>z u e2 (B30 k r) g2 b2 hR) (Gr.refl (Tb.wf b)).ge (b.le (Ag (Sb 1 hw) (by decide))) λos e fo g b2 ha η=>
  (Sk.of (B2 (k+13) tl (x:=.list (os.map iN)) (kd:=.fr) rfl (b2.b (by decide)) ha) b2 (by decide)).el λu6 e6 r6 g6 b6 hR6=>
   z os e e6 (xK "_law_changed" 901022085 [] (by kernel_rfl) (by kernel_rfl) fo) (R.inj (Tb.wf b6) (hS▸hR6) ((h.G.ge g).ge g6)▸r6)
theorem Yl{t g:Nat}{ms hs:List Bi}{ps:List Nat}(w:Wf ext)(hK:K ext t ps)(hb:∀q∈ps,q∈A0)(h:Za d (lS ps) ⟨t,g,ms,hs⟩ ext){C:Prop}(z:∀(wh:List Nat)(F:Nat→CS),wh.length≤38→(∀q∈wh,R ext q (F q)∧Nm (F q))→N (B5 (wh.map λq=>Gv d (ms.map aS) (hs.map aS) (F q)))=Gv d (ms.map aS) (hs.map aS) (lS ps)→(∀w:Wc,Ls w "_law_changed" 900 (frG ⟨t,g,ms,hs⟩ d 3) (St ext (A8 nums n)) .nx (frW ⟨t,g,ms,hs⟩ d wh) (St ext (A8 nums n)))→C):C:=by
 have hone:(∀q∈ps,R ext q (one q)∧Nm (one q))∧N (B5 (ps.map λq=>Gv d (ms.map aS) (hs.map aS) (one q)))=Gv d (ms.map aS) (hs.map aS) (lS ps):=⟨λq hq=>⟨Ae.r (.base (hb q hq)),j3 (Nat.lt_trans (B8 (hb q hq)) (by decide))⟩,gQ (λq hq=>Nat.lt_trans (B8 (hb q hq)) (by decide)) (Z0 h.H) h.nm⟩
 have hr0:=Nt hK hb
 have hlen:=R.len w hK
 cases hK with
 |never=>exact z [2] (λη=>lS []) (Nat.le_of_ble_eq_true rfl) (λq hq=>Hd hq▸⟨K.never.r,h.nm⟩) pY λw=>xS "_law_changed" 900 [] (by kernel_rfl)
 |one hp=>exact hr0.elim λrow h=>h.elim λf h=>z [t] one (Nat.le_of_ble_eq_true rfl) hone.1 hone.2 λw=>xS "_law_changed" 900 [.v 900030041 (Bj (A8 nums n) h.1),.v 900030044 (h.2.1 (St ext (A8 nums n))),.t 900030055 (c:=false) (Bool.not_eq_true' _▸h.2.2.1)] (by kernel_rfl)
 |many hr h2 h3 h4=>exact z ps one hlen hone.1 hone.2 λw=>xS "_law_changed" 900 [.v 900030041 (Bj (A8 nums n) hr),.v 900012023 (Bj (A8 nums n) hr)] (by kernel_rfl)
theorem sE{P:Nat→Prop}{n m:Nat}(h:n<m+1)(h1:n<m→P n)(h2:P m):P n:=(Nat.lt_or_eq_of_le (Nat.le_of_lt_succ h)).elim h1 λe=>e▸h2
theorem lt4{P:Nat→Prop}{n:Nat}(h:n<4)(h0:P 0)(h1:P 1)(h2:P 2)(h3:P 3):P n:=sE h (λh=>sE h (λh=>sE h (λh=>sE h (λh=>nomatch h) h0) h1) h2) h3
theorem D02(h:Za d S p ext)(h0:0<nums.length)(h1:nums.length<1000)(h2:n<1000000)(b:Tq 90 ext):ChQ k 891 p d 2 (St ext (A8 nums n)):=by
 cases d
 ·exact A91 k h h0 h1 h2 b
 ·exact A90 k h h0 h1 h2 b
theorem nL{ps:List Nat}{x1 x2:Str}{how t:Nat}{ms hs:List Bi}(hhow:how<4)(h0:0<nums.length)(h1:nums.length<1000)(h2:n<1000000)(hK:K ext t ps)(hb:∀q∈ps,q∈A0)(hn:Nm (lS ps))(hm:∀a∈ms,Bc ext a)(hh:∀a∈hs,Bc ext a)(l1:ms.length≤4)(l2:hs.length≤3)(b:Tq 600 ext):∃σ,(cx (k+22)).call "_law_changed" [wV,iV t,iV how,(.d (.list (ms.map Ah)),.al x1),(.d (.list (hs.map Ah)),.al x2),(.d (.bool d),.cl)] (St ext (A8 nums n))=some ((.d (.bool true),.cl),σ):=
 (Fg (k+1) 510 (tid:=λa:Bi=>a.1) (U:=aS) (xb:=.list (ms.map tI)) (xh:=.list (hs.map tI)) (kb:=.al "rows") (kh:=.al "hot") (tl:=A8 nums n) rfl rfl (J3 (ext:=ext) hb▸hK.r) hn (λa ha=>(hm a ha).tst) (λa ha=>(hh a ha).tst) (Ag l2 (by decide)) d (b.le (Gu 510 (c:=90) l1 l2 (by decide)))).el λg e1 r1 g1 b1 hG=>by
  have f:Za d (lS ps) ⟨t,g,ms,hs⟩ e1:=⟨(J3 (ext:=ext) hb▸hK.r:R ext t (lS ps)).ge g1,hn,Ui λq hq=>Nat.lt_trans (B8 (hb q hq)) (by decide),λa ha=>(hm a ha).tst.ge g1,λa ha=>(hh a ha).tst.ge g1,hG,l1,l2⟩
  have c1:=λhow=>Vn (w:=cx (k+21)) (σ:=St ext (A8 nums n)) "_law_changed" 882011039 ((frX ⟨t,g,ms,hs⟩ d how).take 8) ms (by kernel_rfl) (by kernel_rfl) λη=>by kernel_rfl
  have c2:=λhow=>Vn (w:=cx (k+21)) (σ:=St ext (A8 nums n)) "_law_changed" 883010035 ((frX ⟨t,g,ms,hs⟩ d how).take 9) hs (by kernel_rfl) (by kernel_rfl) λη=>by kernel_rfl
  exact lt4 (P:=λhow=>∃σ,(cx (k+22)).call "_law_changed" [wV,iV t,iV how,(.d (.list (ms.map Ah)),.al x1),(.d (.list (hs.map Ah)),.al x2),(.d (.bool d),.cl)] (St ext (A8 nums n))=some ((.d (.bool true),.cl),σ)) hhow
   ((D04 k (nums:=nums) (n:=n) f (b1.le (by decide))).elim λσ l=>⟨σ,xF [.k (c1 0),.k (c2 0),.c r1,.o l]⟩)
   ((D03 k (nums:=nums) (n:=n) f (b1.le (by decide))).elim λσ l=>⟨σ,xF [.k (c1 1),.k (c2 1),.c r1,.o l]⟩)
   ((D02 k (n:=n) f h0 h1 h2 (b1.le (by decide))).elim λσ l=>⟨σ,xF [.k (c1 2),.k (c2 2),.c r1,.o l]⟩)
   (Yl (nums:=nums) (n:=n) (Tb.wf b1) (hK.ge g1) hb f λwh F hw hF hS l900=>nM k (tl:=A8 nums n) f hw hF hS (b1.le (by decide)) λos e e' c3 r3=>⟨St e' (A8 nums n),xF [.k (c1 3),.k (c2 3),.c r1,.o (l900 _),.k c3,.c r3,.t 901011093 (Da g)]⟩)
end
end
section
open PySem
theorem oK{S:CS}{v:Nat}:v∈HS S↔v<14∧Ej S v=true:=by
 unfold HS
 rw[List.mem_filter,List.mem_range]
 rfl
noncomputable def i9(S:CS)(pre:List Bi):List Bi→List Nat
 |[]=>[]
 |a::post=>HS (Gv false (pre.map aS) [aS a] S)++i9 S (pre++[a]) post
section
variable{ext:List PyData}{ns:List Nat}{tw:Bool}{c v:Nat}
theorem qO{pre:List Bi}{a:Bi}(hn:∀x∈ns,x<23)(hp:∀b∈pre,Bc ext b)(ha:Bc ext a)(hc:c∈Cq ns)(h1:v∈hC c)(h:B0 (pre.map Bo) v=false)(hu:(Bo a==Int.ofNat v)=true):v∈HS (Gv false (pre.map aS) [aS a] (S0 tw ns)):=by
 have hb:=(G5 hn c hc).1
 have hv14:=(Cz (Nat.lt_trans (B8 hb) (by decide))).2 v h1
 refine oK.mpr ⟨hv14,(Qm (tw:=tw) (hs:=[a]) (d:=false) hn hp (λx hx=>Hd hx▸ha) hv14).trans (Qe ⟨c,hc,?_⟩)⟩
 exact(H3 hb h1 h).elim λe he=>Qe ⟨e,he.1,Qe ⟨a,.head _,J9 ha.lt he.2 (Pc hu▸At.mpr (.head _))⟩⟩
theorem qP{pre post:List Bi}(hn:∀x∈ns,x<23)(hc:c∈Cq ns)(h1:v∈hC c):(∀b∈pre,Bc ext b)→(∀b∈post,Bc ext b)→B0 (pre.map Bo) v=false→B0 ((pre++post).map Bo) v=true→v∈i9 (S0 tw ns) pre post:=by
 induction post generalizing pre with
 |nil=>exactλη η h h'=>(by rw[List.append_nil,h]at h';exact Bool.noConfusion h')
 |cons a post ih=>
  intro hp hq h h'
  cases q:Bo a==Int.ofNat v
  ·refine List.mem_append_right _ (ih (λb hb=>(sB hb).elim (hp b) λhb=>Hd hb▸hq a (.head _)) (λb hb=>hq b (.tail _ hb)) ?_ (by rw[List.append_assoc];exact h'))
   unfold B0 at h⊢
   rw[List.map_append,List.any_append,h]
   exact(Bool.or_false _).trans q
  ·exact List.mem_append_left _ (qO hn hp (hq a (.head _)) hc h1 h q)
theorem Wm{as:List Bi}(hn:∀x∈ns,x<23)(ha:∀a∈as,Bc ext a)(hc:c∈Cq ns)(h1:v∈hC c):v∈HS (Gv true (as.map aS) [] (S0 tw ns))++i9 (S0 tw ns) [] as:=by
 have hb:=(G5 hn c hc).1
 have hv14:=(Cz (Nat.lt_trans (B8 hb) (by decide))).2 v h1
 cases q:B0 (as.map Bo) v
 ·refine List.mem_append_left _ (oK.mpr ⟨hv14,(Qm (tw:=tw) (ms:=as) (hs:=[]) (d:=true) hn ha (λx hx=>nomatch hx) hv14).trans (Qe ⟨c,hc,?_⟩)⟩)
  exact(H3 hb h1 q).elim λe he=>Bool.or_eq_true_iff.mpr (.inl (Qe ⟨e,he.1,At.mpr he.2⟩))
 ·exact List.mem_append_right _ (qP hn hc h1 (λb hb=>nomatch hb) ha rfl q)
theorem Z7(S:CS):(HS S).length≤14:=List.length_filter_le _ _
structure WI where
 t:Nat
 cs:List Nat
 as:List Bi
noncomputable def K6(p:WI)(acc:List Nat):A1:=[("w",.val,.o 16),("t",.val,.d (iN p.t)),("rows",.bor,.d (.list (p.cs.map F4))),("tests",.bor,.d (.list (p.as.map Ah))),("kinds",.own,.d (.list (p.as.map tI))),("seen",.own,.d (.list (acc.map iN)))]
section
variable(k:Nat){nums:List Nat}{n:Nat}(p:WI){S:CS}{w:Wc}{σ:Sg}{C:Prop}
theorem p6{acc X:List Nat}{pr po:List Bi}{a:Bi}{u:Nat}{e e2:List PyData}(ha:pr++a::po=p.as)(hl:acc.length≤4000)(hX:X.length≤14)(r1:(cx (k+21)).call "narrow_switch" [Ax,iV p.t,(.d (.list (pr.map tI)),.fr),(.d (.list ([a].map tI)),.fr),bF] (St e (A8 nums n))=some ((.d (iN u),.cl),St e2 (A8 nums n)))(r2:(cx (k+21)).call "_law_held" [wV,iV u] (St e2 (A8 nums n))=some ((.d (.list (X.map iN)),.fr),St e2 (A8 nums n))):
  Bd (cx (k+21)) (Eb "_law_whole" 905) (Cg "_law_whole") (iN pr.length) (K6 p acc) (St e (A8 nums n)) .nx (K6 p (acc++X)) (St e2 (A8 nums n)):=
 have s1:kR (.d (.list (p.as.map tI))) none (some (Int.ofNat pr.length))=some (.d (.list (pr.map tI)),.fr):=Kk.trans (ha▸List.take_left.symm▸rfl)
 have s2:Hg (.d (.list (p.as.map tI))) (.d (iN pr.length)) (St e (A8 nums n))=some (.d (tI a),.cl):=Ur (ha▸by rw[List.getElem?_append_right (Nat.le_refl _),Nat.sub_self];rfl)
 .sub (Je (l':=K6 p (acc++X)++([("place",.val,.d (iN pr.length))]:A1)) [.v 906061074 s1,.v 906077089 s2,.c r1,.c r2,.v 906008100 (I7 (g:=iN) (x:=.list (X.map iN)) (kd:=.fr) rfl hl (Ag hX (by decide)))] (by kernel_rfl)) .refl (.app rfl)
theorem pA(hR:R ext p.t S)(hn:Nm S)(hT:∀a∈p.as,Kh ext a.1 (aS a))(hl:p.as.length≤4){post:List Bi}:∀{pr:List Bi}{acc:List Nat}{e:List PyData},pr++post=p.as→acc.length+14*post.length≤4000→Ge ext e→Tq (eS post 1) e→(∀e',Lp (cx (k+21)) (Eb "_law_whole" 905) (Cg "_law_whole") ((List.range' pr.length post.length).map iN) (K6 p acc) (St e (A8 nums n)) .nx (K6 p (acc++i9 S pr post)) (St e' (A8 nums n))→C)→C:=by
 induction post with
 |nil=>exactλ{_ acc e} η η η η z=>z e ((List.append_nil acc).symm▸.nil .refl)
 |cons a post ih=>
  intro pr acc e he ha g b z
  have hp:∀x∈pr,x∈p.as:=λx hx=>he▸List.mem_append_left _ hx
  exact(Fg (k+1) (eS post 1) (tid:=λa:Bi=>a.1) (U:=aS) (xb:=.list (pr.map tI)) (xh:=.list ([a].map tI)) (kb:=.fr) (kh:=.fr) (tl:=A8 nums n) rfl rfl (hR.ge g) hn (λx hx=>(hT x (hp x hx)).ge g) (λx hx=>(hT x (Hd hx▸he▸List.mem_append_right _ (.head _))).ge g) (Nat.le_of_ble_eq_true rfl) false (b.le (Gu _ (a:=4) (b:=1) (Ag (by rw[← he,List.length_append];exact Nat.le_add_right _ _) hl) (Nat.le_refl 1) (by decide)))).el λu e2 r1 g2 b2 h2=>
   ih (pr:=pr++[a]) (acc:=acc++HS (Gv false (pr.map aS) [aS a] S)) (by rw[List.append_assoc];exact he) (Ag (by rw[List.length_append,Nat.add_assoc,List.length_cons,Nat.mul_succ,Nat.add_comm (14*_)];exact Nat.add_le_add_left (Nat.add_le_add_right (Z7 _) _) _) ha) (g.trans g2) b2 λe' lp=>z e' (.go (p6 k p he (Ag (Nat.le_add_right _ _) ha) (Z7 _) r1 (L0 (k+18) h2)) (by
    rw[List.length_append]at lp
    rw[List.append_assoc]at lp
    exact lp))
theorem y8{acc:List Nat}(h:∀c∈p.cs,∀v∈hC c,v∈acc):Ls w "_law_whole" 907 (K6 p acc) σ .nx (K6 p acc) σ:=
 P3 (x:=.list (p.cs.map F4)) [] (by kernel_rfl) (by kernel_rfl) (by kernel_rfl) rfl (Su λc hc=>by
  have e:((hC c).filter λv=>!A3 acc v)=[]:=List.filter_eq_nil_iff.mpr λv hv=>by
   rw[At.mpr (h c hc v hv)];exact Bool.false_ne_true
  have q:=xK (l:=K6 p acc++([("sort",.val,.d (sD c)),("held",.val,.d (F2 (hC c)))]:A1)) (w:=w) (σ:=σ) "_law_whole" 908015049 [] (by kernel_rfl) (by kernel_rfl) (Fo.flt (hC c) (p:=λv=>!A3 acc v) (i:=iN) (f:=iN) λv η=>Ze (.b 0 .l .l) (en:=bs [!A3 acc v]) (σ':=λη=>σ) (y:=λe=>cond (e 0) (some (iN v)) none) [.d 908035048 0 (Hp (σ:=σ))] λe=>by kernel_rfl)
  rw[e]at q
  exact .sub (Je (l':=K6 p acc++([("sort",.val,.d (sD c)),("held",.val,.d (F2 (hC c)))]:A1)) [.k q] (by kernel_rfl)) .refl (.app rfl))
theorem y9{acc acc':List Nat}{σ':Sg}(h:Lp w (Eb "_law_whole" 905) (Cg "_law_whole") ((List.range' 0 p.as.length).map iN) (K6 p acc) σ .nx (K6 p acc') σ')(hl:p.as.length≤4):Ls w "_law_whole" 905 (K6 p acc) σ .nx (K6 p acc') σ':=
 P3 (x:=.list ((List.range p.as.length).map iN)) [.l 905017034 ((congrArg (λn:Nat=>H6 (.d (.int (n:Int)))) (List.length_map _)).trans (Nv (Ag hl (by decide))):H6 (.d (.int ((p.as.map tI).length:Int)))=_)] (by kernel_rfl) (by kernel_rfl) (by kernel_rfl) (congrArg (λl=>some (List.map iN l)) List.range_eq_range') h
theorem Wl{x0 x1:Str}(hR:R ext p.t S)(hn:Nm S)(hT:∀a∈p.as,Kh ext a.1 (aS a))(hl:p.as.length≤4)(hW:∀c∈p.cs,∀v∈hC c,v∈HS (Gv true (p.as.map aS) [] S)++i9 S [] p.as)(b:Tq 100 ext):∃σ,(cx (k+22)).call "_law_whole" [wV,iV p.t,(.d (.list (p.cs.map F4)),.al x0),(.d (.list (p.as.map Ah)),.al x1)] (St ext (A8 nums n))=some ((.d (.bool true),.cl),σ):=
 (Fg (k+1) 80 (ms:=p.as) (hs:=[]) (tid:=λa:Bi=>a.1) (U:=aS) (xb:=.list (p.as.map tI)) (xh:=.list []) (kb:=.al "kinds") (kh:=.fr) (tl:=A8 nums n) rfl rfl hR hn hT (H0) (Nat.zero_le _) true (b.le (Gu 80 (b:=0) (c:=20) hl (Nat.le_refl 0) (by decide)))).el λu e1 r1 g1 b1 h1=>
  pA k p (nums:=nums) (n:=n) hR hn hT hl (post:=p.as) (pr:=[]) (acc:=HS (Gv true (p.as.map aS) [] S)) rfl (Ag (Nat.add_le_add (Z7 _) (Nat.mul_le_mul_left 14 hl)) (by decide)) g1 (b1.le (Ag (Sb 1 hl) (by decide))) λe2 lp=>
   ⟨St e2 (A8 nums n),xF [.k (Vn (σ:=St ext (A8 nums n)) "_law_whole" 903012039 ((K6 p []).take 4) p.as (by kernel_rfl) (by kernel_rfl) λη=>by kernel_rfl),.c r1,.c (L0 (nums:=nums) (n:=n) (k+18) h1),.o (y9 p lp hl),.o (y8 p (σ:=St e2 (A8 nums n)) hW)]⟩
end
end
end
section
open PySem
noncomputable def Rt(w:Wc)(f:Str)(j:Nat)(l:A1)(σ:Sg)(rv:RV):Prop:=∃σ',∀ρ,Bn ρ l→∃ρ',Dn (rl w) ((I2 f).drop j) (Cg f) ρ σ=some (.ret rv,ρ',σ')
theorem Vb{w:Wc}{sc:Scope}{b2:List Stmt}{ρ1:A1}{σ1:Sg}:∀{b1:List Stmt}{ρ:A1}{σ:Sg},Dn (rl w) b1 sc ρ σ=some (.nx,ρ1,σ1)→Dn (rl w) (b1++b2) sc ρ σ=Dn (rl w) b2 sc ρ1 σ1
 |[],_,_,h=>by cases h;rfl
 |st::b1,ρ,σ,h=>by
  change Mine.b2 (P9 (rl w) st sc ρ σ) _=_ at h
  show Mine.b2 (P9 (rl w) st sc ρ σ) _=_
  cases e:P9 (rl w) st sc ρ σ with
  |none=>rw[e]at h;exact Ao h
  |some r=>
   obtain⟨fl,r,s⟩:=r
   rw[e]at h
   cases fl with
   |nx=>exact Vb (b1:=b1) h
   |ret _=>exact nomatch h
   |cont=>exact nomatch h
section
variable{w:Wc}{f:Str}{j:Nat}{l:A1}{σ:Sg}{rv:RV}
theorem Rt.end(as:List (Aw w)){σ':Sg}{l':A1}(h:U2 (Dn X ((I2 f).drop j) (Cg f) l ⟨σ,as,[]⟩)=Lj (Dn X ((I2 f).drop j) (Cg f) l ⟨σ,as,[]⟩) (.ret rv) l' σ'):Rt w f j l σ rv:=⟨σ',λρ z=>((fE (w:=w) ((I2 f).drop j) z).end h).imp λη h=>h.1⟩
theorem Rt.step(m:Nat)(as:List (Aw w)){σ1:Sg}{l2 l':A1}(h:U2 (Dn X (((I2 f).drop j).take m) (Cg f) l ⟨σ,as,[]⟩)=Lj (Dn X (((I2 f).drop j).take m) (Cg f) l ⟨σ,as,[]⟩) .nx l' σ1)(k:Mf l2 l')(t:Rt w f (j+m) l2 σ1 rv):Rt w f j l σ rv:=
 t.imp λσ' t ρ z=>((fE (w:=w) (((I2 f).drop j).take m) z).end h).elim λρ1 h1=>(t ρ1 (h1.2.sub k)).imp λρ2 e2=>by
  rw[← List.take_append_drop m ((I2 f).drop j),List.drop_drop]
  exact(Vb h1.1).trans e2
end
theorem vP{ns:List Nat}{tw:Bool}(hn:∀x∈ns,x<23){c:Nat}(h:S0 tw ns c=true):c∈A0:=by
 have mem:∀{c},B5 (ns.map (Kg tw)) c=true→c∈A0:=λ{c} e=>by
  obtain⟨S,hS,e⟩:=eY e
  obtain⟨x,hx,rfl⟩:=aG hS
  unfold Kg at e
  cases q:Nat.beq x 22 with
  |true=>rw[q]at e;cases e
  |false=>
   rw[q]at e
   exact(Bu e)▸Cb (Nat.lt_of_le_of_ne (Nat.le_of_lt_succ (hn x hx)) (Nat.ne_of_beq_eq_false q))
 unfold S0 at h
 generalize B5 (ns.map (Kg tw))=A at mem h
 unfold N at h
 cases q0:A 0 with
 |true=>rw[q0]at h;rw[← Bu h];decide
 |false=>cases q1:A 1 with
  |true=>rw[q0,q1]at h;rw[← Bu h];decide
  |false=>
   rw[q0,q1]at h
   have h:=(Ab h).1
   unfold A7 at h
   rcases Ho h with h|h
   ·exact mem h
   ·rcases Ho (Ab h).1 with h|h
    ·rw[← Bu h];decide
    ·rw[← Bu h];decide
theorem Nu{ext:List PyData}{t:Nat}{ns:List Nat}{tw:Bool}{C:Prop}(hn:∀x∈ns,x<23)(h:R ext t (S0 tw ns))(z:∀ps,K ext t ps→(∀p∈ps,p∈A0)→S0 tw ns=lS ps→C):C:=
 h.ids.elim λps h=>
  have hb:∀p∈ps,p∈A0:=λp hp=>(h.1.pts p hp).elim λc hc=>
   have hm:c∈A0:=vP (tw:=tw) hn (h.2▸Ba.mpr ⟨p,hp,Aq hc⟩)
   F9 hc (B8 hm)▸hm
  z ps h.1 hb (h.2.trans (J3 hb))
structure LI where
 t:Nat
 c:Nat
 ns:List Nat
 qs:List Bi
 ms:List Bi
 hs:List Bi
 as:List Bi
noncomputable def frL(p:LI):A1:=[("w",.val,.o 16),("count",.val,.d (iN p.c)),("t",.val,.d (iN p.t)),("rows",.own,.d (.list ((Cq p.ns).map F4))),("tests",.own,.d (.list (p.qs.map Ah))),("missed",.own,.d (.list (p.ms.map Ah))),("hit",.own,.d (.list (p.hs.map Ah))),("also",.own,.d (.list (p.as.map Ah)))]
structure LF(tw:Bool)(p:LI)(ext:List PyData):Prop where
 ns:∀x∈p.ns,x<23
 R:R ext p.t (S0 tw p.ns)
 rl:(Cq p.ns).length≤8
 qs:∀a∈p.qs,Bc ext a
 q4:p.qs.length≤4
section
variable(k m:Nat){ext:List PyData}{nums:List Nat}{n:Nat}{p:LI}{tw d:Bool}
theorem Bc.ge{a b:List PyData}(g:Ge a b){q:Bi}(h:Bc a q):Bc b q:=g.elim λη g=>h.mono g
theorem LF.ge{e:List PyData}(g:Ge ext e)(h:LF tw p ext):LF tw p e:=⟨h.ns,h.R.ge g,h.rl,λa ha=>(h.qs a ha).ge g,h.q4⟩
theorem LF.clause(h:LF tw p ext){ms hs:List Bi}{x0 x1 x2:Str}(hm:∀a∈ms,a∈p.qs)(hh:∀a∈hs,a∈p.qs)(l1:ms.length≤4)(l2:hs.length≤3)(b:Tq (m+30) ext):Tk m (A8 nums n) ext ((cx (k+22)).call "_law_clause" [wV,iV p.t,(.d (.list ((Cq p.ns).map F4)),.al x0),(.d (.list (ms.map Ah)),.al x1),(.d (.list (hs.map Ah)),.al x2),(.d (.bool d),.cl)] (St ext (A8 nums n))):=
 Nu h.ns h.R λps hK hb hS=>
  have e:=(J3 (ext:=ext) hb).trans hS.symm
  Vj k m ⟨p.t,Cq p.ns,ms,hs⟩ hK (e.symm▸W9 tw p.ns) hb (λa ha=>h.qs a (hm a ha)) (λa ha=>h.qs a (hh a ha)) (Ag l2 (by decide)) (λc hc=>⟨B8 (G5 h.ns c hc).1,(G5 h.ns c hc).2⟩) h.rl (b.le (by
   rw[Fk,Fk,Fk,Fk]
   exact Ag (Nat.add_le_add l1 (Nat.add_le_add_right (Nat.add_le_add l2 (Nat.add_le_add_right (Nat.add_le_add_right (Nat.add_le_add l1 (Nat.add_le_add_right (Nat.add_le_add_right l2 _) 1)) 1) 1)) 1)) (by omega)))
   (e.symm▸lK (W9 tw p.ns) (xX h.ns)) (e.symm▸eQ d h.ns (λa ha=>h.qs a (hm a ha)) (λa ha=>h.qs a (hh a ha))) (e.symm▸Vc h.ns (λa ha=>h.qs a (hm a ha)) (λa ha=>h.qs a (hh a ha)))
theorem LF.chg(h:LF tw p ext){how:Nat}{ms hs:List Bi}{x1 x2:Str}(hhow:how<4)(h0:0<nums.length)(h1:nums.length<1000)(h2:n<1000000)(hm:∀a∈ms,a∈p.qs)(hh:∀a∈hs,a∈p.qs)(l1:ms.length≤4)(l2:hs.length≤3)(b:Tq 600 ext):∃σ,(cx (k+22)).call "_law_changed" [wV,iV p.t,iV how,(.d (.list (ms.map Ah)),.al x1),(.d (.list (hs.map Ah)),.al x2),(.d (.bool d),.cl)] (St ext (A8 nums n))=some ((.d (.bool true),.cl),σ):=
 Nu h.ns h.R λps hK hb hS=>nL k hhow h0 h1 h2 hK hb (hS▸W9 tw p.ns) (λa ha=>h.qs a (hm a ha)) (λa ha=>h.qs a (hh a ha)) l1 l2 b
theorem LF.whole(h:LF tw p ext){x0 x1:Str}(b:Tq 100 ext):∃σ,(cx (k+22)).call "_law_whole" [wV,iV p.t,(.d (.list ((Cq p.ns).map F4)),.al x0),(.d (.list (p.qs.map Ah)),.al x1)] (St ext (A8 nums n))=some ((.d (.bool true),.cl),σ):=Wl k ⟨p.t,Cq p.ns,p.qs⟩ h.R (W9 tw p.ns) (λa ha=>(h.qs a ha).tst) h.q4 (λc hc v hv=>Wm h.ns h.qs hc hv) b
theorem A10(f:LF tw p ext)(h0:0<nums.length)(h1:nums.length<1000)(h2:n<999990)(hm:∀a∈p.ms,a∈p.qs)(hh:∀a∈p.hs,a∈p.qs)(ha:∀a∈p.as,a∈p.qs)(l2:p.ms.length≤4)(l3:p.hs.length≤3)(l4:p.as.length≤3)(b:Tq 600 ext):Rt (cx (k+22)) "law" 16 (frL p) (St ext (A8 nums n)) (.d (.bool true),.cl):=
 (B3 (k+21) (ext:=ext) (N:=5) (NI:=5) rfl h0 h1 (n:=n) (Nat.lt_trans h2 (by decide)) (by decide)).elim λhow r3=>(Nat.lt_or_eq_of_le (Nat.le_of_lt_succ r3.1)).elim (λh4=>
  (B3 (k+21) (ext:=ext) (N:=2) (NI:=2) rfl h0 h1 (n:=n+1) (Nat.lt_trans (Nat.succ_lt_succ h2) (by decide)) (by decide)).elim λr2 r4=>by
   have q4:PyData.eqv (iN how) (.int 4)=false:=Cn (b:=4) (Nat.ne_of_lt h4)
   cases q:PyData.eqv (iN r2) (.int 1)
   ·exact(f.chg (n:=n+1+1) (d:=false) (x1:="missed") (x2:="hit") k h4 h0 h1 (Nat.lt_trans (Nat.succ_lt_succ (Nat.succ_lt_succ h2)) (by decide)) hm hh l2 l3 b).elim λσ r5=>.end (σ':=σ) (l':=frL p++([("how",.val,.d (iN how))]:A1)) [.c r3.2,.t 942007015 q4,.c r4.2,.t 944007027 q,.c r5] (by kernel_rfl)
   ·exact(f.chg (n:=n+1+1) (d:=true) (x1:="tests") (x2:="also") k h4 h0 h1 (Nat.lt_trans (Nat.succ_lt_succ (Nat.succ_lt_succ h2)) (by decide)) (λη h=>h) ha f.q4 l4 b).elim λσ r5=>.end (σ':=σ) (l':=frL p++([("how",.val,.d (iN how))]:A1)) [.c r3.2,.t 942007015 q4,.c r4.2,.t 944007027 q,.c r5] (by kernel_rfl)) λh4=>by
  subst h4
  exact(f.whole (nums:=nums) (n:=n+1) (x0:="rows") (x1:="tests") k (b.le (by decide))).elim λσ r5=>.end (σ':=σ) (l':=frL p++([("how",.val,.d (iN 4))]:A1)) [.c r3.2,.c r5] (by kernel_rfl)
theorem A11(h:LF tw p ext)(h0:0<nums.length)(h1:nums.length<1000)(h2:n<999990)(hm:∀a∈p.ms,a∈p.qs)(hh:∀a∈p.hs,a∈p.qs)(ha:∀a∈p.as,a∈p.qs)(l2:p.ms.length≤4)(l3:p.hs.length≤3)(l4:p.as.length≤3)(b:Tq 700 ext):Rt (cx (k+22)) "law" 15 (frL p) (St ext (A8 nums n)) (.d (.bool true),.cl):=
 (h.clause (nums:=nums) (n:=n) (d:=false) (x0:="rows") (x1:="missed") (x2:="hit") k 670 hm hh l2 l3 b).elim λe1 c1=>((h.ge c1.2.1).clause (nums:=nums) (n:=n) (d:=true) (x0:="rows") (x1:="tests") (x2:="also") k 640 (λη h=>h) ha h.q4 l4 c1.2.2).elim λe2 c2=>
  .step 1 [.c c1.1,.c c2.1] (by kernel_rfl) .refl (A10 k (h.ge (c1.2.1.trans c2.2.1)) h0 h1 h2 hm hh ha l2 l3 l4 (c2.2.2.le (by decide)))
end
end
section
open PySem
theorem wY{c:Nat}(h:c≤4):Ny .Pow (.d (.int 2)) (.d (iN c))=some (.d (iN (2^c)),.cl):=Ay (f:=λc=>Ny .Pow (.d (.int 2)) (.d (iN c))) (by kernel_rfl:(List.range 5).map (λc=>Ny .Pow (.d (.int 2)) (.d (iN c)))=(List.range 5).map λc=>some (.d (iN (2^c)),.cl)) (En (Nat.lt_succ_of_le h))
noncomputable def a8:Bi:=(0,false,[])
noncomputable def frA(p:LI)(mask:Nat):A1:=(frL p).take 5++([("mask",.val,.d (iN mask))]:A1)
noncomputable def frB(p:LI)(mask:Nat)(ms:List Bi):A1:=frA p mask++([("missed",.own,.d (.list (ms.map Ah)))]:A1)
noncomputable def frD(p:LI)(mask:Nat)(ms hs:List Bi):A1:=frB p mask ms++([("hit",.own,.d (.list (hs.map Ah)))]:A1)
section
variable(k:Nat){ext:List PyData}{nums:List Nat}{n:Nat}{p:LI}{w:Wc}{σ:Sg}
theorem B82{mask:Nat}(h:p.qs.length=p.c)(hc:p.c≤4):Ce w "law" 936013084 (frA p mask) σ ((((List.range p.c).filter λi=>Nat.beq (mask/2^i%2) 1).map λi=>p.qs.getD i a8).map Ah) σ:=by
 rw[List.map_map]
 refine xK "law" 936013084 [.l 936040052 (Nv (Ag hc (by decide)))] (by kernel_rfl) (by kernel_rfl) (Fo.flt (List.range p.c) (p:=λi=>Nat.beq (mask/2^i%2) 1) (i:=iN) (f:=Ah∘λi=>p.qs.getD i a8) λi hi=>?_)
 have hi:=List.mem_range.mp hi
 have e:p.qs[i]?=some (p.qs.getD i a8):=by rw[List.getD_eq_getElem?_getD,List.getElem?_eq_getElem (h▸hi)];rfl
 have h4:i≤4:=Ag (Nat.le_of_lt hi) hc
 exact Ze (.b 0 .l .l) (en:=bs [Nat.beq (mask/2^i%2) 1]) (σ':=λη=>σ) (y:=λe=>cond (e 0) (some (Ah (p.qs.getD i a8))) none) [.v 936064074 (wY h4),.v 936056074 (wZ (a:=mask) (b:=2^i) (Nat.pow_pos (by decide)) (Nat.lt_of_le_of_lt (Nat.pow_le_pow_right (by decide) h4) (by decide))),.v 936056078 (kQ (a:=mask/2^i) (b:=2) (by decide)),.g 936056083 0 (Y2 (mask/2^i%2) 1),.v 936014026 (Ur (g:=Ah) (σ:=σ) e)] λe=>by kernel_rfl
theorem bS{c:Expr}{l:A1}{qs:List Bi}{B:Nat}{C:Prop}(turn:∀y n,n<B→∃a∈qs,Tn w c l y (St ext (A8 nums n)) (some (Ah a)) (St ext (A8 nums (n+1)))){xs:List PyData}:∀{n:Nat},n+xs.length≤B→(∀(as:List Bi) n',n'≤B→(∀a∈as,a∈qs)→as.length=xs.length→Fo w c l xs (St ext (A8 nums n)) (as.map Ah) (St ext (A8 nums n'))→C)→C:=by
 induction xs generalizing C with
 |nil=>exactλh z=>z [] _ h H0 rfl .nil
 |cons x xs ih=>exactλ{n} h z=>(turn x n (Nat.lt_of_lt_of_le (Nat.lt_add_of_pos_right (Nat.succ_pos _)) h)).elim λa ha=>ih (Nat.succ_add_eq_add_succ n xs.length▸h) λas n' hn h1 h2 fo=>z (a::as) n' hn (λb hb=>(Mw hb).elim (λe=>e▸ha.1) (h1 b)) (congrArg Nat.succ h2) (.cons ha.2 fo)
theorem Ve{l:A1}{f:Str}{key:Nat}(h0:0<nums.length)(h1:nums.length<1000)(hq:p.qs.length=p.c)(hc:0<p.c)(as:∀{r n:Nat}{a:Bi},(cx (k+22)).call "_law_take" [wV,iV p.c] (St ext (A8 nums n))=some ((.d (iN r),.cl),St ext (A8 nums (n+1)))→p.qs[r]?=some a→∀y,Tn (cx (k+22)) (lc f key) l y (St ext (A8 nums n)) (some (Ah a)) (St ext (A8 nums (n+1))))(y:PyData)(n:Nat)(hn:n<1000):∃a∈p.qs,Tn (cx (k+22)) (lc f key) l y (St ext (A8 nums n)) (some (Ah a)) (St ext (A8 nums (n+1))):=
 (B3 (k+21) (ext:=ext) (N:=p.c) rfl h0 h1 (n:=n) (Nat.lt_trans hn (by decide)) hc).elim λr h=>⟨p.qs[r]'(hq▸h.1),List.getElem_mem _,as h.2 (List.getElem?_eq_getElem (hq▸h.1)) y⟩
variable{mask:Nat}{ms hs:List Bi}{C:Prop}
theorem B81(h0:0<nums.length)(h1:nums.length<1000)(hq:p.qs.length=p.c)(hc:0<p.c)(hn:n<900)(z:∀(hs:List Bi) n',n'≤n+4→(∀a∈hs,a∈p.qs)→hs.length≤3→Ce (cx (k+22)) "law" 937010075 (frB p mask ms) (St ext (A8 nums n)) (hs.map Ah) (St ext (A8 nums n'))→C):C:=
 (B3 (k+21) (ext:=ext) (N:=3) (NI:=3) rfl h0 h1 (n:=n) (Nat.lt_trans hn (by decide)) (by decide)).elim λr h=>
  bS (c:=lc "law" 937010075) (l:=frB p mask ms) (B:=n+4) (xs:=(List.range (1+r)).map iN) (n:=n+1) (λy n hn'=>Ve k h0 h1 hq hc (λr e y=>xT [.c r,.v 937011037 (Ur (g:=Ah) (σ:=St ext (A8 nums (n+1))) e)]) y n (Nat.lt_of_lt_of_le hn' (Ag (Nat.add_le_add_right (Nat.le_of_lt hn) 4) (by decide)))) (by rw[List.length_map,List.length_range,Nat.add_assoc];exact Nat.add_le_add_left (Nat.add_le_add_left (Nat.add_le_add_left (Nat.le_of_lt_succ h.1) 1) 1) n) λhs n' hn hs1 hs2 fo=>
   z hs n' hn hs1 (hs2▸by rw[List.length_map,List.length_range];exact Nat.add_le_add_left (Nat.le_of_lt_succ h.1) 1) (xK "law" 937010075 [.c h.2,.l 937048074 (Nv (m:=1+r) (Ag (Nat.add_le_add_left (Nat.le_of_lt h.1) 1) (by decide)))] (by kernel_rfl) (by kernel_rfl) fo)
theorem B80(h0:0<nums.length)(h1:nums.length<1000)(hq:p.qs.length=p.c)(hc:0<p.c)(hn:n<900)(z:∀(as:List Bi) n',n'≤n+4→(∀a∈as,a∈p.qs)→as.length≤3→Ce (cx (k+22)) "law" 938011076 (frD p mask ms hs) (St ext (A8 nums n)) (as.map Ah) (St ext (A8 nums n'))→C):C:=
 (B3 (k+21) (ext:=ext) (N:=3) (NI:=3) rfl h0 h1 (n:=n) (Nat.lt_trans hn (by decide)) (by decide)).elim λr h=>
  bS (c:=lc "law" 938011076) (l:=frD p mask ms hs) (B:=n+4) (xs:=(List.range (1+r)).map iN) (n:=n+1) (λy n hn'=>Ve k h0 h1 hq hc (λr e y=>xT [.c r,.v 938012038 (Ur (g:=Ah) (σ:=St ext (A8 nums (n+1))) e)]) y n (Nat.lt_of_lt_of_le hn' (Ag (Nat.add_le_add_right (Nat.le_of_lt hn) 4) (by decide)))) (by rw[List.length_map,List.length_range,Nat.add_assoc];exact Nat.add_le_add_left (Nat.add_le_add_left (Nat.add_le_add_left (Nat.le_of_lt_succ h.1) 1) 1) n) λhs n' hn hs1 hs2 fo=>
   z hs n' hn hs1 (hs2▸by rw[List.length_map,List.length_range];exact Nat.add_le_add_left (Nat.le_of_lt_succ h.1) 1) (xK "law" 938011076 [.c h.2,.l 938049075 (Nv (m:=1+r) (Ag (Nat.add_le_add_left (Nat.le_of_lt h.1) 1) (by decide)))] (by kernel_rfl) (by kernel_rfl) fo)
noncomputable def B42(p:LI)(ms hs as:List Bi):LI:={p with ms:=ms,hs:=hs,as:=as}
theorem dJ{tw:Bool}(h:LF tw p ext)(h0:0<nums.length)(h1:nums.length<1000)(h2:n<800)(hq:p.qs.length=p.c)(hc:0<p.c)(b:Tq 700 ext)(c936:Ce (cx (k+22)) "law" 936013084 (frA p mask) (St ext (A8 nums n)) (ms.map Ah) (St ext (A8 nums n)))(hm:∀a∈ms,a∈p.qs)(lm:ms.length≤4):Rt (cx (k+22)) "law" 12 (frA p mask) (St ext (A8 nums n)) (.d (.bool true),.cl):=
 B81 (ext:=ext) (mask:=mask) k (ms:=ms) h0 h1 hq hc (Nat.lt_trans h2 (by decide)) λhs n1 hn1 hh l3 c937=>B80 (ext:=ext) (mask:=mask) k (ms:=ms) (hs:=hs) h0 h1 hq hc (Nat.lt_of_le_of_lt hn1 (Nat.lt_of_lt_of_le (Nat.add_lt_add_right h2 4) (by decide))) λas n2 hn2 ha l4 c938=>
  .step 3 (l':=frD p mask ms hs++([("also",.own,.d (.list (as.map Ah)))]:A1)) [.k c936,.k c937,.k c938] (by kernel_rfl) (.cons rfl (.cons rfl (.cons rfl (.cons rfl (.cons rfl (.cons rfl (.cons rfl (.cons rfl (.nil rfl))))))))) (A11 k (p:=B42 p ms hs as) (tw:=tw) ⟨h.ns,h.R,h.rl,h.qs,h.q4⟩ h0 h1 (Nat.lt_of_le_of_lt hn2 (Nat.lt_of_le_of_lt (Nat.add_le_add_right hn1 4) (Nat.lt_of_lt_of_le (Nat.add_lt_add_right h2 8) (by decide)))) hm hh ha lm l3 l4 b)
theorem A12{tw:Bool}(h:LF tw p ext)(h0:0<nums.length)(h1:nums.length<1000)(h2:n<800)(hq:p.qs.length=p.c)(hc:0<p.c)(b:Tq 700 ext):Rt (cx (k+22)) "law" 12 (frA p mask) (St ext (A8 nums n)) (.d (.bool true),.cl):=
 dJ k h h0 h1 h2 hq hc b (B82 hq (hq▸h.q4)) (λa ha=>(aG ha).elim λi hi=>by
  have e:=List.mem_range.mp (M0 hi.1).1
  rw[← hi.2,List.getD_eq_getElem?_getD,List.getElem?_eq_getElem (hq▸e)]
  exact List.getElem_mem _) (by
  rw[List.length_map]
  exact Ag (List.length_filter_le _ _) (by rw[List.length_range,← hq];exact h.q4))
end
end
section
open PySem
theorem cW{ns:List Nat}(h:ns.length≤8):(Cq ns).length≤8:=by
 unfold Cq
 cases A3 ns 21
 ·cases A3 ns 20
  ·rw[List.length_map]
   exact Ag (List.length_filter_le _ _) h
  ·exact Nat.succ_le_succ (Nat.zero_le 7)
 ·exact Nat.succ_le_succ (Nat.zero_le 7)
noncomputable def uF(c:Nat)(ns:List Nat):A1:=[("w",.val,.o 16),("count",.val,.d (iN c)),("names",.own,.d (.list (ns.map C6)))]
section
variable(k:Nat){ext:List PyData}{nums:List Nat}{n c:Nat}
theorem B77{ns:List Nat}(h0:0<nums.length)(h1:nums.length<1000)(h2:n<100)(hns:∀x∈ns,x<23)(hl:ns.length≤8)(c1:0<c)(c4:c≤4)(b:Tq 710 ext):Rt (cx (k+22)) "law" 8 (uF c ns) (St ext (A8 nums n)) (.d (.bool true),.cl):=
 (B3 (k+21) (ext:=ext) (N:=2) (NI:=2) rfl h0 h1 (n:=n) (Nat.lt_trans h2 (by decide)) (by decide)).elim λr r1=>
  (Nq (k+13) (n:=n+1) (nums:=nums) (kd:=.al "names") (PyData.eqv (iN r) (.int 1)) hns (b.b (by decide))).elim λt h=>h.elim λe1 hk=>
   have b1:Tq 709 e1:=b.gr hk.2.1 (by decide)
   Wq (k+11) (nums:=nums) (n:=n+1) (c:=c) h0 h1 (Nat.lt_trans (Nat.succ_lt_succ h2) (by decide)) (Ag c4 (by decide)) (b1.b (Ag c4 (by decide))) λqs n2 e2 g1 g2 g3 g4 g5=>
    have hn2:n2<700:=Nat.lt_of_le_of_lt g2 (Nat.lt_of_lt_of_le (Nat.add_lt_add_of_lt_of_le (Nat.succ_lt_succ h2) (Nat.mul_le_mul_left 6 c4)) (by decide))
    (B3 (k+21) (ext:=e2) (N:=2^c) (NI:=Int.ofNat (2^c)) rfl h0 h1 (n:=n2) (Nat.lt_trans hn2 (by decide)) (Nat.pow_pos (by decide))).elim λmask r5=>
     .step 4 (l':=uF c ns++([("t",.val,.d (iN t)),("rows",.own,.d (.list ((Cq ns).map F4))),("tests",.own,.d (.list (qs.map Ah))),("mask",.val,.d (iN mask))]:A1)) [.c r1.2,.c hk.1,.c (d5 (k+20) (ext:=e1) (nums:=nums) (n:=n+1) (kd:=.al "names") hns (Ag hl (by decide))),.c g1,.v 935024034 (wY c4),.c r5.2] (by kernel_rfl) (.cons rfl (.cons rfl (.cons rfl (.cons rfl (.cons rfl (.cons rfl (.nil rfl)))))))
      (A12 k (p:=⟨t,c,ns,qs,[],[],[]⟩) (tw:=PyData.eqv (iN r) (.int 1)) ⟨hns,hk.2.2.mono g3,cW hl,g5,g4▸c4⟩ h0 h1 (Nat.lt_trans (Nat.succ_lt_succ hn2) (by decide)) g4 c1 ((b1.gr g3 (Ag c4 (by decide))).le (by decide)))
theorem dC{c x:Nat}{xs:List Nat}{y:PyData}(hx:x<23)(hxs:∀x∈xs,x<23)(hl:xs.length≤4000)(r:(cx (k+22)).call "_law_take" [wV,(.d (.int 23),.cl)] (St ext (A8 nums n))=some ((.d (iN x),.cl),St ext (A8 nums (n+1)))):Bd (cx (k+22)) (Eb "law" 928) (Cg "law") y (uF c xs) (St ext (A8 nums n)) .nx (uF c (cond (!A3 xs x) (xs++[x]) xs)) (St ext (A8 nums (n+1))):=
 .sub (Qi (w:=cx (k+22)) (.b 0 .l .l) (en:=bs [!A3 xs x]) (f:=λη=>.nx) (l':=λe=>uF c (cond (e 0) (xs++[x]) xs)++([("go",.val,.d y),("name",.val,.d (C6 x))]:A1)) (σ':=λη=>St ext (A8 nums (n+1))) [.cw r,.cw (Ay (Pt (k+21) (St ext (A8 nums (n+1)))) (En hx)),.d 930011028 0 (aA (σ:=St ext (A8 nums (n+1))) hxs hx),.v 931012030 (Eg (g:=C6) (os:=xs) (x:=x) (kd:=.cl) rfl hl)] λe=>by kernel_rfl) .refl (.app rfl)
theorem jJ{C:Prop}{B:Nat}(h0:0<nums.length)(h1:nums.length<1000)(hB:B≤900){ys:List PyData}:∀{xs:List Nat}{n:Nat},(∀x∈xs,x<23)→xs.length+ys.length≤4→n+ys.length≤B→(∀(xs':List Nat) n',n'≤B→(∀x∈xs',x<23)→xs'.length≤4→Lp (cx (k+22)) (Eb "law" 928) (Cg "law") ys (uF c xs) (St ext (A8 nums n)) .nx (uF c xs') (St ext (A8 nums n'))→C)→C:=by
 induction ys with
 |nil=>exactλ{xs n} hx hl hn z=>z xs n hn hx hl (.nil .refl)
 |cons y ys ih=>
  exactλ{xs n} hx hl hn z=>(B3 (k+21) (ext:=ext) (N:=23) (NI:=23) rfl h0 h1 (n:=n) (Nat.lt_of_le_of_lt (Ag (Ag (Nat.le_add_right _ _) hn) hB) (by decide)) (by decide)).elim λx h=>
   ih (xs:=cond (!A3 xs x) (xs++[x]) xs) (n:=n+1) (S5 (P:=λl=>∀x∈l,x<23) (λa ha=>(sB ha).elim (hx a) λha=>Hd ha▸h.1) hx) (S5 (P:=λl:List Nat=>l.length+ys.length≤4) (by rw[List.length_append,List.length_singleton,Nat.add_assoc,Nat.add_comm 1];exact hl) (Ag (Nat.add_le_add_left (Nat.le_succ _) _) hl)) (Nat.succ_add_eq_add_succ n ys.length▸hn) λxs' n' hn' h2 h3 lp=>z xs' n' hn' h2 h3 (.go (dC k h.1 hx (Ag (Ag (Nat.le_add_right _ _) hl) (by decide)) h.2) lp)
theorem kK{r:Nat}(hr:r<5)(σ:Sg):∃m,m≤4∧Hg (.d (.tuple [.int 2,.int 1,.int 3,.int 4,.int 0])) (.d (iN r)) σ=some (.d (iN m),.cl):=
 ⟨[2,1,3,4,0].getD r 0,(by decide:∀r<5,[2,1,3,4,0].getD r 0≤4) r hr,Ay (by kernel_rfl:(List.range 5).map (λr=>Hg (.d (.tuple [.int 2,.int 1,.int 3,.int 4,.int 0])) (.d (iN r)) σ)=(List.range 5).map λr=>some (.d (iN ([2,1,3,4,0].getD r 0)),.cl)) (En hr)⟩
theorem B78(h0:0<nums.length)(h1:nums.length<1000):Rt (cx (k+22)) "law" 5 [("w",.val,.o 16)] (St [] (A8 nums 0)) (.d (.bool true),.cl):=
 (B3 (k+21) (ext:=[]) (N:=3) (NI:=3) rfl h0 h1 (n:=0) (by decide) (by decide)).elim λr0 a0=>(B3 (k+21) (ext:=[]) (N:=5) (NI:=5) rfl h0 h1 (n:=1) (by decide) (by decide)).elim λr1 a1=>
  (kK a1.1 (St [] (A8 nums 2))).elim λm am=>jJ k (ext:=[]) (c:=2+r0) (B:=90) (ys:=(List.range m).map iN) (xs:=[]) (n:=2) h0 h1 (by decide) (by decide) (by rw[List.length_map,List.length_range];exact Ag (Nat.le_of_eq (Nat.zero_add m)) am.1) (by rw[List.length_map,List.length_range];exact Ag (Nat.add_le_add_left am.1 2) (by decide)) λns n' hn hns hl lp=>by
   have lp:=P3 (l:=uF (2+r0) []) (x:=.list ((List.range m).map iN)) (σ:=St [] (A8 nums 1)) [.c a1.2,.v 928020052 am.2,.l 928014053 (Nv (Ag am.1 (by decide)))] (by kernel_rfl) (by kernel_rfl) (by kernel_rfl) rfl lp
   exact .step 3 (l':=uF (2+r0) ns) [.c a0.2,.s 928 lp] (by kernel_rfl) .refl (B77 k h0 h1 (Nat.lt_of_le_of_lt hn (by decide)) hns (Ag hl (by decide)) (Nat.lt_of_lt_of_le (by decide) (Nat.le_add_right 2 r0)) (Nat.add_le_add_left (Nat.le_of_lt_succ a0.1) 2) ⟨Wf.nil,Nat.le_of_ble_eq_true rfl⟩)
end
end
section
open PySem
theorem Rt.call{k:Nat}{f:Str}{rs:List RV}{l:A1}{σ:Sg}{rv:RV}(h:o1 (fn f) (λfd=>Gk fd.params fd.dfl rs)=some l)(t:Rt (cx k) f 0 l σ rv):∃σ',(cx (k+1)).call f rs σ=some (rv,σ'):=t.elim λσ' t=>⟨σ',by
 show o1 (fn f) (λfd=>o1 (Gk fd.params fd.dfl rs) λρ=>b2 (Dn (rl (cx k)) fd.body fd.scope ρ σ) _)=_
 have t:=t l .self
 unfold I2 Cg at t
 cases e:fn f with
 |none=>rw[e]at h;exact Ao h
 |some fd=>
  rw[e]at h t
  show o1 (Gk fd.params fd.dfl rs) _=_
  rw[show Gk fd.params fd.dfl rs=some l from h]
  obtain⟨ρ,e⟩:=t
  show Mine.b2 (Dn (rl (cx k)) fd.body fd.scope l σ) _=_
  rw[show Dn (rl (cx k)) fd.body fd.scope l σ=_ from e]
  rfl⟩
section
variable(k:Nat){nums:List Nat}
theorem wW(h0:0<nums.length)(h1:nums.length<1000):Rt (cx (k+22)) "law" 2 [("nums",.own,.d (.list (nums.map iN)))] [] (.d (.bool true),.cl):=
 .step 3 (l':=[("nums",.val,.d (.list (nums.map iN))),("tab",.val,.o 0),("atoms",.val,.d Sd),("w",.val,.o 16)]) (σ1:=St [] (A8 nums 0)) [] (by kernel_rfl) (.cons rfl (.nil rfl)) (B78 k h0 h1)
theorem B79{x:PyData}(h1:nums.length<1000):Rt (cx (k+22)) "law" 1 [("script",.val,.d x),("nums",.own,.d (.list (nums.map iN)))] [] (.d (.bool true),.cl):=by
 have z:=Ia (g:=iN) (l:=nums) 0
 cases q:Nat.beq nums.length 0<;>rw[q]at z
 ·exact .step 1 (l':=[("script",.val,.d x),("nums",.own,.d (.list (nums.map iN)))]) [.t 921007021 z] (by kernel_rfl) (.cons rfl (.nil rfl)) (wW k (Nat.pos_of_ne_zero (Nat.ne_of_beq_eq_false q)) h1)
 ·exact .step 1 (l':=[("script",.val,.d x),("nums",.own,.d (.list ([1,2,11,12,14,0,0,0,0,0,2,4,17,1,0,0,16,0,3,1,1,2,1,0,1,2,0,1].map iN)))]) [.t 921007021 z] (by kernel_rfl) (.cons rfl (.nil rfl)) (wW k (nums:=[1,2,11,12,14,0,0,0,0,0,2,4,17,1,0,0,16,0,3,1,1,2,1,0,1,2,0,1]) (by decide) (by decide))
noncomputable def zW(x:Int):Nat:=(Int.fmod x 999983).toNat
theorem dI(is:List Int):∃σ,(cx (k+23)).call "law" [(.d (.list (is.map .int)),.cl)] []=some ((.d (.bool true),.cl),σ):=by
 have c:Ce (cx (k+22)) "law" 920011044 [("script",.val,.d (.list (is.map .int)))] [] (((is.take 63).map zW).map iN) []:=by
  rw[List.map_map]
  exact xK "law" 920011044 [.v 920032043 (Kk (g:=PyData.int) (l:=is) (i:=63))] (by kernel_rfl) (by kernel_rfl) (Fo.map (i:=PyData.int) λx η=>xT [.v 920012022 (show Ny .Mod (.d (.int x)) (.d (.int 999983))=some (.d (iN (zW x)),.cl)from congrArg (λi=>some (V.d (.int i),Kd.cl)) (Int.toNat_of_nonneg (Int.fmod_nonneg_of_pos x (by decide))).symm)])
 exact Rt.call (l:=[("script",.val,.d (.list (is.map .int)))]) (by kernel_rfl) (.step 1 (l':=[("script",.val,.d (.list (is.map .int))),("nums",.own,.d (.list (((is.take 63).map zW).map iN)))]) [.k c] (by kernel_rfl) .refl (B79 k (by rw[List.length_map];exact Nat.lt_of_le_of_lt (List.length_take_le 63 is) (by decide))))
end
end
section
open PySem PySem.W PySem.Calls
noncomputable section
noncomputable abbrev C7:Program:=Challenge.pw_xm0489_01
noncomputable def G2:List Stmt:=behindTheImports C7
noncomputable abbrev pR(vs:List Value):Obj:={cls:=.type "tuple",data:=.seq vs.toArray}
noncomputable abbrev uJ(vs:List Value):Obj:={cls:=.none,data:=.fields vs.toArray}
structure MS where
 T:BT
 n:Nat
 k:Nat
 m:List DictEntry
 c:List Value
 nm:Value
noncomputable abbrev frc{α:Type}(n:Nat)(f:Nat→α):α:=Nat.rec (f 0) (λm η=>f (m+1)) n
noncomputable def MS.al(o:Obj):MS→MS
 |⟨T,n,k,m,c,nm⟩=>match(T.ins n o).get n with
  |some _=>frc (n+1) λn1=>⟨T.ins n o,n1,k,m,c,nm⟩
  |none=>⟨.nil,0,0,[],[],.none⟩
noncomputable def MS.tk(d:Nat):MS→MS
 |⟨T,n,k,m,c,nm⟩=>frc (k+d) λk=>⟨T,n,k,m,c,nm⟩
noncomputable abbrev wk{α:Type}(s:MS)(f:Nat→Nat→α):α:=match s with
 |⟨_,n,k,_,_,_⟩=>f n k
noncomputable def txs:List Str→Nat→List Value
 |[],_=>[]
 |x::r,k=>.str x k::txs r (k+1)
noncomputable def MS.tx(xs:List Str)(s:MS):MS:=wk s λη k=>.tk xs.length (.al (pR (txs xs k)) s)
noncomputable def MS.txo(xs:Option (List Str))(s:MS):MS×Value:=match xs with
 |some xs=>wk s λn η=>(s.tx xs,.ref n)
 |none=>(s,.none)
noncomputable abbrev Va:Str:="/claim/cut.py"
noncomputable abbrev ri(n:Nat):Value:=.int n 0
noncomputable abbrev uU(P:Params)(x:Str)(k:Nat)(v:Value):DictEntry:=⟨PyData.keyHash P x,.str x k,v⟩
noncomputable def MS.put(P:Params)(x:Str)(v:Value):MS→MS
 |⟨T,n,k,m,c,nm⟩=>frc (k+1) λk1=>⟨T,n,k1,uU P x k v::m,c,nm⟩
noncomputable def MS.code(x q:Str)(line ac fl:Nat)(isF:Bool)(free:List Str)(lo:Option (List Str×List Str))(t:Option FuncData)(s:MS):MS:=match s with
 |⟨_,a,k,_,_,_⟩=>match((s.tk 3).tx free).al (uJ [])with
  |s=>match s.txo (lo.map (·.1))with
   |(s,v1)=>match s.txo (lo.map (·.2))with
    |(s,v2)=>match(match t with|some fd=>wk s λn η=>(s.al {cls:=.none,data:=.func fd},.ref n)|none=>(s,.none):MS×Value)with
     |(s,vt)=>wk s λη h=>.tk 2 (s.al {cls:=.type "code",data:=.fields #[.str x k,.str q (k+1),.str Va (k+2),ri line,ri ac,ri 0,ri 0,ri fl,.ref a,.bool isF,ri 181,.ref (a+1),.none,v1,v2,vt,ri h,ri line,.str Va (h+1)]})
noncomputable def lkM:List DictEntry→Str→Value
 |[],_=>.none
 |⟨_,.str y _,v⟩::r,x=>match Fast.sEq y x with
  |true=>v
  |false=>lkM r x
 |_::r,x=>lkM r x
noncomputable def nmE:Expr→Str
 |.Name x _=>x
 |_=>""
noncomputable def dEs(m:List DictEntry):List (Option Expr)→List Expr→List DictEntry
 |some k::ks,v::vs=>⟨match lkM m (nmE k)with|.int i _=>i|_=>0,lkM m (nmE k),lkM m (nmE v)⟩::dEs m ks vs
 |_,_=>[]
noncomputable def A77:Expr→MS→MS×Value
 |.Constant (.int i) _ _,s=>wk s λη k=>(s.tk 1,.int i k)
 |.Constant (.str x) _ _,s=>wk s λη k=>(s.tk 1,.str x k)
 |.UnaryOp _ (.Constant (.int i) _ _) _,s=>wk s λη k=>(s.tk 2,.int (-i) (k+1))
 |.Name x _,s=>(s,lkM s.m x)
 |.Tuple es _ _,s=>match Pa es s with
  |(s,vs)=>wk s λn η=>(s.al (pR vs),.ref n)
 |.Dict ks vs _,s=>match dEs s.m ks vs with
  |es=>wk s λn η=>(.tk es.length (s.al {cls:=.type "dict",data:=.dict es.toArray es.length}),.ref n)
 |_,s=>(s,.none)
where Pa:List Expr→MS→MS×List Value
 |[],s=>(s,[])
 |e::r,s=>match A77 e s with
  |(s,v)=>match Pa r s with
   |(s,vs)=>(s,v::vs)
noncomputable def fnM(q x:Str)(as:Arguments)(b:List Stmt)(sc:Scope)(p:Pos)(s:MS):MS×Value:=
 match(match as.defaults with|[]=>(s,.none)|ds=>A77 (.Tuple ds 0 p) s:MS×Value)with
 |(s,dv)=>match s.code x q p.line as.args.length (functionFlags as.vararg.isSome as.kwarg.isSome sc ⟨Va,0,false,181⟩) true sc.freeNames (localNames as sc (.stmts b)) (some {name:=x,qualname:=q,params:=as,body:=.stmts b,scope:=sc,globals:=builtinsNs,closure:=[],defaults:=.none,kwdefaults:=.none})with
  |⟨T,n,k,m,c,nm⟩=>(MS.al {cls:=.type "function",data:=.func {name:=x,qualname:=q,params:=as,body:=.stmts b,scope:=sc,globals:=mainGlobals,closure:=[],defaults:=dv,kwdefaults:=.none,pyModule:=nm,code:=.ref (n-1)}} ⟨T,n,k,m,.ref (n-1)::ri p.col::ri p.line::c,nm⟩,.ref n)
section
variable(P:Params)
noncomputable def wO(pre:Str):List Stmt→MS→MS
 |.FunctionDef x as b _ _ _ sc _ _ p::r,s=>match fnM (pre++x) x as b sc p s with
  |(s,v)=>wO pre r (s.put P x v)
 |_,s=>s
noncomputable def C01(cA:Nat):List (String×Value×Value)→List DictEntry→MS→MS×List DictEntry
 |[],es,s=>wk s λη k=>(s.tk 1,(uU P "__doc__" k .none::es).reverse)
 |(o,f,g)::r,es,s=>wk s λn k=>C01 cA r (uU P o (k+1) (.ref n)::es) (.tk 2 (s.al {cls:=.type "getset_descriptor",data:=.fields #[.str o k,.ref cA,f,g]}))
noncomputable def cS(a:Nat)(f:Obj→Obj):MS→MS
 |⟨T,n,k,m,c,nm⟩=>⟨T.set a f,n,k,m,c,nm⟩
noncomputable def C49(a:Nat)(o:Obj):Obj:=match o with
 |⟨c,d,.cls x,sl⟩=>⟨c,d,.cls {x with subclasses:=x.subclasses++[.ref a]},sl⟩
 |o=>o
noncomputable abbrev gW:String×Value×Value:=("__weakref__",.builtin "ExceptionGroup.__weakref__",.none)
noncomputable abbrev gD:String×Value×Value:=("__dict__",.builtin "function.__dict__",.builtin "function.__dict__#set")
noncomputable def A88(bs mro gv:List Value)(new:Option Value)(gs:List (String×Value×Value))(note:Nat→MS→MS)(x:Str)(b:List Stmt)(sc:Scope)(st:List Str)(p:Pos)(s:MS):MS:=match s with
 |⟨_,n0,k,m,c,nm⟩=>match s.al (pR gv)with
  |s=>match(s.al {cls:=.type "builtin_function_or_method",data:=.fields #[.builtin "type.__prepare__",.type "type"]})with
   |s=>wk s λns η=>match MS.code x x p.line 0 0 false sc.freeNames none none (.tk 2 (s.al default))with
     |s=>wk s λn η=>match s.al {cls:=.type "frame",slots:=#[some (.ref (n-1)),some (.ref 3),some (.ref ns),none,some nm,none,some (.ref 0)]}with
      |⟨T,n,k2,_,_,_⟩=>match wO P (x++(Str.ofString ".")) b ⟨T,n,k2+5,[uU P "__firstlineno__" (k2+4) (.int p.line (k2+3)),uU P "__qualname__" (k2+2) (.str x (k2+1)),uU P "__module__" k2 nm],[],nm⟩with
       |s=>wk s λn η=>match MS.put P "__static_attributes__" (.ref n) (s.tx st)with
        |⟨T,n,k3,m1,c1,_⟩=>match m1.reverse with
         |es=>match C01 P (n+1) gs [] (.al default (.al default ⟨T,n,k3,m,.ref (ns+3)::ri p.col::ri p.line::c,nm⟩))with
          |(s,ad)=>.put P x (.ref (n+1)) (.tk 1 (note (n+1)
           (.al {cls:=.type "builtin_function_or_method",data:=.fields #[.builtin "object.__init_subclass__",.ref (n+1)]} (.al {cls:=.type "super",data:=.fields #[.ref (n+1),.ref (n+1),.ref (n+1)]}
           (cS ns (λη=>{cls:=.type "dict",data:=.dict es.toArray es.length}) (cS (ns+2) (λη=>uJ c1.reverse)
           (cS n (λη=>{cls:=.type "dict",data:=.dict (es.take 1++(es.drop 2++ad)).toArray (1+ad.length)})
           (cS (n+1) (λη=>{cls:=.type "type",data:=.cls {name:=x,bases:=bs,mro:=.ref (n+1)::mro,ns:=n,qualname:=x},slots:=#[match gv with|[]=>none|_=>some (.ref n0),none,some (.str x k),some (.str x (k2+1)),new,some (.bool true)]}) s))))))))
noncomputable def C99(B:List Expr)(x:Str)(b:List Stmt)(sc:Scope)(st:List Str)(p:Pos)(s:MS):MS:=match B with
 |[]=>A88 P [.type "object"] [.type "object"] [] (some (.builtin "object.__new__")) [gD,gW] (λη s=>s) x b sc st p s
 |e::_=>match lkM s.m (nmE e)with
  |.ref a=>match s.T.get a with
   |some ⟨_,_,.cls c,sl⟩=>A88 P [.ref a] c.mro [.ref a] (sl[4]?.getD none) [] (λd s=>cS a (C49 d) s) x b sc st p s
   |_=>s
  |_=>A88 P [.type "Exception"] [.type "Exception",.type "BaseException",.type "object"] [.type "Exception"] (some (.builtin "Exception.__new__")) [gW] (λd s=>wk s λη k=>cS 2 (λη=>{cls:=.none,data:=.dict #[uU P "type.__subclasses__.Exception.0" k (ri d),uU P "type.__subclasses__.Exception.n" (k+1) (ri 1)] 2}) (s.tk 2)) x b sc st p s
noncomputable def stM(s:MS):Stmt→MS
 |.FunctionDef x as b _ _ _ sc _ _ p=>match fnM x x as b sc p s with
  |(s,v)=>s.put P x v
 |.Assign [.Name x _] e _=>match A77 e s with
  |(⟨T,n,k,m,c,nm⟩,v)=>match Fast.sEq x "__name__" with
   |true=>frc (k+1) λk=>⟨T,n,k,m,c,v⟩
   |false=>frc (k+1) λk1=>⟨T,n,k1,uU P x k v::m,c,nm⟩
 |.ClassDef x bs _ b _ _ sc _ _ st p=>C99 P bs x b sc st p s
 |_=>s
noncomputable def zK:MS→BT
 |⟨T,_,_,m,c,nm⟩=>(T.set 12 λη=>uJ c.reverse).set 3 λo=>match o with
  |⟨cl,d,.dict es e,sl⟩=>⟨cl,d,.dict ((match es.toList with|⟨h,k,_⟩::r=>⟨h,k,nm⟩::r|[]=>[])++m.reverse).toArray (e+m.length),sl⟩
  |o=>o
noncomputable def s0:MS:=[boot_o_0 P,boot_o_1 P,boot_o_2 P,boot_o_3 P,boot_o_4 P,boot_o_5 P,boot_o_6 P,boot_o_7 P,boot_o_8 P,boot_o_9 P,boot_o_10 P,pR [],uJ [],
 {cls:=.type "code",data:=.fields #[.str "<module>" 182,.str "<module>" 183,.str Va 184,ri 1,ri 0,ri 0,ri 0,ri 0,.ref 11,.bool false,ri 181,.ref 12,.none,.none,.none,.none,ri 185,ri 1,.str Va 186]},
 {cls:=.type "frame",slots:=#[some (.ref 13),some (.ref 3),some (.ref 3),none,some (.str "__main__" 164),none,some (.ref 0)]}].foldl (λs o=>s.al o) ⟨.nil,0,187,[],[],.str "__main__" 164⟩
noncomputable def sAt(i:Nat):MS:=(G2.take i).foldl (stM P) (s0 P)
end
end
end
section
open PySem PySem.W PySem.Calls
noncomputable section
noncomputable abbrev z4:Pos:=⟨0,0,0,0⟩
noncomputable def K9:Env:={scope:=C7.main.scope,locals:=mainNs,globals:=mainNs,cells:=[],code:=.ref 13,frame:=some 14}
noncomputable def shT(s:MS)(os:OsState):SharedT:=match s with
 |⟨T,n,k,m,c,nm⟩=>⟨zK ⟨T,n,k,m,c,nm⟩,n,{},#[],{},k,os⟩
noncomputable def poA:Nat→Pos
 |0=>z4
 |i+1=>match G2[i]? with
  |some (.Assign (t::_) _ _)=>t.pos
  |some s=>s.pos
  |none=>z4
noncomputable abbrev PCf(seg:(String→Option Builtin)→Program→World→Nat→Option Value→Nat→Nat→SharedT→Thread→Option (Flow×SharedT×Code×Pos))(tb:String→Option Builtin)(i j:Nat)(w:World):Prop:=
 ∀p b os,seg tb p w 11 (some (.ref 6)) 1 1000 (shT (sAt w.params i) os) (piecesOf ((G2.drop i).take (j-i)) K9 (.body b K9) (poA i) [topFrame z4])=some (.next,shT (sAt w.params j) os,.body b K9,poA j)
noncomputable abbrev PC:Nat→Nat→World→Prop:=PCf segRunT treeTable
theorem Dy{i j:Nat}{w:World}(h:PCf @PySem.W.Fast.tw10110043849684766642 PySem.W.Fast.tw14364793385576792824 i j w):PC i j w:=by
 unfold PC
 rw[PySem.W.Fast.te10110043849684766642,PySem.W.Fast.te14364793385576792824]
 exact h
theorem p0(w:World):PC 0 3 w:=Dy λp b os=>by kernel_rfl
theorem p3(w:World):PC 3 4 w:=Dy λp b os=>by kernel_rfl
theorem p4(w:World):PC 4 21 w:=Dy λp b os=>by kernel_rfl
theorem p21(w:World):PC 21 53 w:=Dy λp b os=>by kernel_rfl
theorem C70(w:World):PC 53 57 (w.withFollow "special-get-raises" false):=Dy λp b os=>by kernel_rfl
theorem C69(w:World):PC 53 57 (w.withFollow "special-get-raises" true):=Dy λp b os=>by kernel_rfl
theorem p53(w:World):PC 53 57 w:=World.withFollow_self w "special-get-raises"▸match w.params.followText "special-get-raises" with
 |false=>C70 w
 |true=>C69 w
theorem p57(w:World):PC 57 58 w:=Dy λp b os=>by kernel_rfl
theorem p58(w:World):PC 58 63 w:=Dy λp b os=>by kernel_rfl
theorem p63(w:World):PC 63 76 w:=Dy λp b os=>by kernel_rfl
theorem p76(w:World):PC 76 94 w:=Dy λp b os=>by kernel_rfl
theorem p94(w:World):PC 94 106 w:=Dy λp b os=>by kernel_rfl
theorem C77(w:World):PC 106 120 w:=Dy λp b os=>by kernel_rfl
theorem C76(w:World):PC 120 135 w:=Dy λp b os=>by kernel_rfl
theorem C75(w:World):PC 135 148 w:=Dy λp b os=>by kernel_rfl
theorem C74(w:World):PC 148 149 w:=Dy λp b os=>by kernel_rfl
theorem C73(w:World):PC 149 154 w:=Dy λp b os=>by kernel_rfl
theorem C72(w:World):PC 154 168 w:=Dy λp b os=>by kernel_rfl
theorem C71(w:World):PC 168 171 w:=Dy λp b os=>by kernel_rfl
end
end
section
open PySem PySem.W PySem.Calls
noncomputable section
noncomputable abbrev gsE:Array GenState:=Array.mk []
noncomputable abbrev Ta(i:Nat)(w:World)(os:OsState):Shared:=(shT (sAt w.params i) os).abs
noncomputable def hZ(P:Params):Heap:=absHeap (zK (sAt P 171)) 903 {}
noncomputable def sZ(P:Params)(os:OsState):Shared:=⟨hZ P,gsE,{},1581,os⟩
theorem C67(w:World)(os:OsState):topGo treeTable C7 w 11 (some (.ref 6)) 12 ⟨boot_heap w.params,Array.mk [],boot_drawn,boot_toks,os⟩ (topStub C7)=
  some (Ta 0 w os,⟨denote treeTable (.body G2 K9),.body G2 K9,z4,[topFrame z4]⟩):=by kernel_rfl
theorem A95(w:World)(os:OsState):segRun treeTable C7 w 11 (some (.ref 6)) 1 1 (Ta 0 w os) (blockOf G2 K9 (.body G2 K9) z4 [topFrame z4])=
  some (.next,Ta 0 w os,.body G2 K9,z4):=by kernel_rfl
theorem C90(w:World)(os:OsState):topRun treeTable C7 w 11 (some (.ref 6)) 3 (Ta 171 w os) (restOf (G2.drop 171) K9 (.body G2 K9) (poA 171) [topFrame z4])=some (Ta 171 w os):=by kernel_rfl
theorem Tt{i j N:Nat}{w:World}{os:OsState}{r:Shared}(h:PC i j w)(hij:i≤j)(k:topRun treeTable C7 w 11 (some (.ref 6)) N (Ta j w os) (restOf (G2.drop j) K9 (.body G2 K9) (poA j) [topFrame z4])=some r):
  topRun treeTable C7 w 11 (some (.ref 6)) (1000+N) (Ta i w os) (restOf (G2.drop i) K9 (.body G2 K9) (poA i) [topFrame z4])=some r:=by
 have e:G2.drop i=(G2.drop i).take (j-i)++G2.drop j:=by
  rw[show G2.drop j=(G2.drop i).drop (j-i)from by rw[List.drop_drop,Nat.add_sub_cancel' hij]]
  exact(List.take_append_drop _ _).symm
 exact(e)▸piece_app (segRun_of (h C7 G2 os)) k
theorem B47(w:World)(os:OsState):Ta 171 w os=sZ w.params os:=by kernel_rfl
noncomputable abbrev Uo:Str:=Str.ofString "law"
noncomputable def qv:Program:=view C7 [170]
noncomputable def lv:List Str:=C7.boundNames.filter λx=>match decide (x=Uo)with|true=>false|false=>true
noncomputable abbrev im:List Str:=importedModules C7.main.body
noncomputable abbrev Xt0:Shared→Bool:=λη=>true
theorem C54(w:World)(os:OsState):topRun treeTable C7 w 11 (some (.ref 6)) 17016 ⟨boot_heap w.params,Array.mk [],boot_drawn,boot_toks,os⟩ (topStub C7)=some (sZ w.params os):=by
 have h:=C90 w os
 have h:=Tt (p0 w) (by decide) (Tt (p3 w) (by decide) (Tt (p4 w) (by decide) (Tt (p21 w) (by decide) (Tt (p53 w) (by decide) (Tt (p57 w) (by decide) (Tt (p58 w) (by decide) (Tt (p63 w) (by decide) (Tt (p76 w) (by decide) (Tt (p94 w) (by decide) (Tt (C77 w) (by decide) (Tt (C76 w) (by decide) (Tt (C75 w) (by decide) (Tt (C74 w) (by decide) (Tt (C73 w) (by decide) (Tt (C72 w) (by decide) (Tt (C71 w) (by decide) h))))))))))))))))
 exact(go_top (C67 w os) (piece_block (A95 w os) h)).trans (congrArg some (B47 w os))
theorem B73(w:World):((boot_heap w.params).isNs mainGlobals&&gsE.size==0,(boot_heap w.params).objs.size,(boot_heap w.params).nsMap mainGlobals "__annotations__")=(true,11,some (.ref 6)):=by kernel_rfl
theorem A06(P:Params)(os:OsState):((staticsOk im (boot_heap P) (hZ P)&&namesBound C7 (hZ P)&&gensDone (sZ P os)&&laidKept (boot_heap P) (hZ P)),
  openSeen qv lv im Xt0 true (sZ P os),(sZ P os).heap)=(true,openGood qv lv,hZ P):=by kernel_rfl
theorem B76:LeftO C7 qv lv Xt0 (λs=>s.heap) (λw=>hZ w.params) 20000:=
 LeftO.of_pieces (H₀:=boot_heap) (H₁:=hZ) (gs₀:=Array.mk []) (gs₁:=gsE) (d₀:=boot_drawn) (d₁:={}) (k₀:=boot_toks) (k₁:=1581) (m₀:=11) (ann:=some (.ref 6)) (M:=17016)
  (boot_open (by kernel_rfl) (by decide +kernel) (λs=>rfl)) B73 C54 (by decide +kernel) (λw=>funext λos=>A06 w.params os)
end
end
section
open PySem PySem.W PySem.Calls PyProof.Rows
@[irreducible] noncomputable def treeZ (P:Params):BT:=zK (sAt P 171)
noncomputable def tgt(t:BT)(a:Nat):Option Obj:=match Nat.blt a 903 with
 |true=>(t.get a).bind alive
 |false=>none
theorem Gp{P:Params}{a:Nat}{o:Obj}(h:tgt (treeZ P) a=some o):(hZ P).get? a=some o:=by
 unfold tgt treeZ at h
 cases hb:Nat.blt a 903<;>rw[hb]at h
 ·exact nomatch h
 ·obtain⟨o',e,h⟩:=rI h
  exact(abs_get (Vp hb) e).trans h
noncomputable def xV:List Nat:=[123,137,158,172,180,187,195,202,209,216,223,230,237,244,249,256,263,270,277,284,289,294,301,308,315,321,328,335,340,347,354,361,366,373,380,387,394,401,408,413,420,427,434,441,449,456,461,468,473,480,485,494,501,506,511,516,521,526,533,540,549,554,559,566,573,578,585,590,597,602,609,614,636,643,671,790,812,819,826,833,838,843,848,855,860,865,870,875,880,885,890,897,902]
noncomputable def W3:List (Nat×Nat):=L8.zipWith (λp a=>(p.1,a)) xV
noncomputable def Wk(f:Str):Nat:=(Wj (Md f) W3).getD 0
noncomputable def cH:Nat→Nat
 |0=>140
 |1=>161
 |_=>800
noncomputable def kAd:List Nat:=[140,139,161,160,765,764,800,799,173,188,442]++xV
noncomputable def mkK(G:Nat→Option Obj)(l:List Nat):Frag:=l.filterMap λa=>(G a).map (a,·)
theorem H1{G:Nat→Option Obj}{a:Nat}{o:Obj}:∀{l:List Nat},(mkK G l).lookup a=some o→G a=some o
 |b::l,h=>by
  unfold mkK at h
  rw[List.filterMap_cons]at h
  cases hb:G b with
  |none=>rw[hb]at h;exact H1 (l:=l) h
  |some q=>
   rw[hb]at h
   change List.lookup a ((b,q)::mkK G l)=_ at h
   rw[List.lookup_cons]at h
   cases e:a==b<;>rw[e]at h
   ·exact H1 h
   ·rw[eq_of_beq e,hb,Cd h]
noncomputable def nsE(G:Nat→Option Obj)(a:Nat)(x:Str):Option Value:=match G a with
 |some ⟨_,_,.dict es _,_⟩=>nsFind es x
 |_=>none
noncomputable abbrev tZ(P:Params):Nat→Option Obj:=tgt (treeZ P)
noncomputable abbrev Kx(P:Params):Frag:=mkK (tZ P) kAd
noncomputable abbrev aK(P:Params):Str→Option Value:=nsE (tZ P) mainGlobals
noncomputable abbrev mbx(P:Params):Str→Option Value:=nsE (tZ P) builtinsNs
noncomputable def B74:Value→Option V
 |.int i _=>some (.d (.int i))
 |.str s _=>some (.d (.str s))
 |_=>none
noncomputable def C15(G:Nat→Option Obj):Value→List Value
 |.ref T=>match G T with
  |some ⟨_,_,.seq items _,_⟩=>items.toList
  |_=>[]
 |_=>[]
noncomputable def w6:Value→Option Str
 |.str x _=>some x
 |_=>none
noncomputable def wH:Value→Option Addr
 |.ref a=>some a
 |_=>none
noncomputable def mN:Obj→Option (Array Value)
 |⟨_,_,.fields vs,_⟩=>some vs
 |_=>none
noncomputable def nJ(G:Nat→Option Obj)(c:Value)(q:Str):Bool:=match(wH c).bind λa=>(G a).bind λo=>(mN o).bind λvs=>(vs[1]?).bind w6 with
 |some x=>sq x q
 |none=>false
noncomputable def fnD(G:Nat→Option Obj)(a:Nat):Option FuncData:=match G a with
 |some ⟨_,_,.func fd,_⟩=>some fd
 |_=>none
noncomputable def fnQ(G:Nat→Option Obj)(d:FuncData):Scope×FuncBody×List (Str×Addr)×Addr×Addr×Bool:=(d.scope,d.body,d.closure,d.globals,d.builtins,nJ G d.code d.qualname)
noncomputable def r8{α:Type}(u:Nat→α)(n:Nat):List α:=((List.range 7).map u).take n
noncomputable def bdQ(fd:Fd)(r:Nat→RV)(n:Nat):Option (List (SK×V)):=(Gk fd.params fd.dfl (r8 r n)).map λρ=>(ρ.drop n).map (·.2)
noncomputable def vsO(G:Nat→Option Obj)(d:FuncData)(k n:Nat):List Value:=(C15 G d.defaults).drop ((C15 G d.defaults).length+n-k)
noncomputable abbrev BQ:=Option (List (Option (SK×V))×Option (List (Str×Value)))
noncomputable def bnQ(K:Frag)(G:Nat→Option Obj)(S:Setting)(u:Nat→Value)(r:Nat→RV)(fd:Fd)(d:FuncData)(n:Nat):BQ:=(bdQ fd r n).map λl=>(l.map some,peek K S (bindArgs d ⟨r8 u n,[]⟩))
noncomputable def bnW(G:Nat→Option Obj)(u:Nat→Value)(r:Nat→RV)(fd:Fd)(d:FuncData)(n:Nat):BQ:=(bdQ fd r n).map λη=>((vsO G d fd.params.length n).map λv=>(B74 v).map (SK.val,·),some (fd.params.zip (r8 u n++vsO G d fd.params.length n)))
noncomputable def A93{α:Type}(G:Nat→Option Obj)(f:Fd→FuncData→α)(p:Nat×Nat):Option α:=(oQ p.2).bind λfd=>(fnD G ((Wj p.1 W3).getD 0)).map (f fd)
noncomputable def Wn(G:Nat→Option PyData):Value→Option PyData
 |.none=>some .none
 |.bool b=>some (.bool b)
 |.int i _=>some (.int i)
 |.str s _=>some (.str s)
 |.ref a=>match G a with
  |some x=>match D9 x with|true=>some x|false=>none
  |none=>none
 |_=>none
noncomputable def mD(G:Nat→Option Obj):Nat→Value→PyData→List (Nat×PyData)
 |n+1,.ref a,.tuple ds=>(a,.tuple ds)::match G a with
  |some ⟨_,_,.seq vs _,_⟩=>(vs.toList.zip ds).flatMap λp=>mD G n p.1 p.2
  |_=>[]
 |_+1,.ref a,d=>[(a,d)]
 |_,_,_=>[]
noncomputable def g0L(P:Params):List (Nat×PyData):=glL.flatMap λp=>match aK P p.2.1 with
 |some u=>mD (tZ P) 3 u p.2.2
 |none=>[]
noncomputable def mG(P:Params)(a:Nat):Option PyData:=Wj a (g0L P)
noncomputable def kU:Obj→Option (Array Value)
 |⟨_,_,.seq vs _,_⟩=>some vs
 |_=>none
noncomputable def kX:PyData→Bool
 |.tuple _=>true
 |_=>false
noncomputable def n4:PyData→Option (List (PyData×PyData))
 |.dict kvs=>some kvs
 |_=>none
noncomputable def B29(G:Nat→Option Obj)(g:Nat→Option PyData)(p:Nat×PyData):Option (Obj×Option PyData×Bool):=match kX p.2 with
 |true=>(G p.1).bind λo=>(kU o).map λvs=>(o,(vs.toList.mapM (Wn g)).map .tuple,Nat.ble vs.size I1)
 |false=>none
noncomputable def C43(G:Nat→Option Obj)(p:Nat×PyData):Option (Obj×Option PyData×Bool):=match kX p.2 with
 |true=>some ({cls:=.type "tuple",data:=.seq (((G p.1).bind kU).getD #[])},some p.2,true)
 |false=>none
noncomputable def zV:List (Nat×Nat):=L8.filter λp=>Nat.blt p.2 1000
noncomputable def Vo:List (Str×Value):=[("tuple",Sa .tup),("len",Sa .len),("all",Sa .all),("any",Sa .any),("sorted",Sa .srt),("isinstance",.builtin "isinstance"),("str",.type "str"),("range",.type "range")]
noncomputable def xR:List Str:=["rows","index","tab","decls","bounds","defaults","names","members","origins","renamed","shaping","putting","did","kind","name","params","body","bases","static","extends_class","abstract","variances","busy","at","file","nid","deep","most_rounds","most_deep","lib"]
noncomputable def wX:List (Int×Tok×Int×Tok):=[(3,329,6,371),(4,331,5,369),(5,333,4,367),(6,335,1,361),(7,337,2,363),(10,343,7,373)]
noncomputable def kfO(l:List (Int×Tok×Int×Tok)):Obj:={cls:=.type "dict",data:=.dict (l.map λq=>(⟨q.1,.int q.1 q.2.1,.int q.2.2.1 q.2.2.2⟩:DictEntry)).toArray 6}
noncomputable def kfD(l:List (Int×Tok×Int×Tok)):List (PyData×PyData):=l.map λq=>(.int q.1,.int q.2.2.1)
noncomputable abbrev D00(P:Params)(c:Nat):=(([("__getattribute__":Str),"__getattr__","__setattr__","__init__"].map λn=>findIn (Kx P) (.ref (cH c)) n,xR.map λn=>findIn (Kx P) (.ref (cH c)) n),
 (keepIn (Kx P) (.ref (cH c))&&(hasDictIn (Kx P) (cH c)&&(plainOver (Kx P) (cH c)&&makesIn (Kx P) (cH c))),typeIn (Kx P) (.ref (Wk (J6 c))),(zU c).map λm=>(findIn (Kx P) (.ref (cH c)) m.1,(typeIn (Kx P) (.ref (Wk m.2)),O0 m.1,keepIn (Kx P) (.ref (Wk m.2))))))
noncomputable abbrev C98(c:Nat):(List (Option (Option Value))×List (Option (Option Value)))×(Bool×Option Value×List (Option (Option Value)×(Option Value×Bool×Bool))):=
 (([some (some (.builtin "object.__getattribute__")),some none,some (some (.builtin "object.__setattr__")),some (some (.ref (Wk (J6 c))))],xR.map λη=>some none),
 (true,some (.type "function"),(zU c).map λm=>(some (some (.ref (Wk m.2))),(some (.type "function"),false,true))))
theorem nK(P:Params):(L8.map (λp=>(fnD (tZ P) ((Wj p.1 W3).getD 0)).map (fnQ (tZ P))),zV.map (λp=>(aK P (wN p.2),keepIn (Kx P) (.ref (Wk (wN p.2))))))=
  (L8.map (λp=>(oQ p.2).map λfd=>(fd.scope,.stmts fd.body,[],mainGlobals,builtinsNs,true)),zV.map (λp=>(some (.ref (Wk (wN p.2))),true))):=by kernel_rfl
theorem C19(P:Params)(S:Setting)(u:Nat→Value)(r:Nat→RV):L8.map (A93 (tZ P) λfd d=>(List.range 8).map (bnQ (Kx P) (tZ P) S u r fd d))=L8.map (A93 (tZ P) λfd d=>(List.range 8).map (bnW (tZ P) u r fd d)):=by kernel_rfl
theorem S6(P:Params):([0,1,2].map (D00 P),(v8.map λp=>aK P p.1,Vo.map λp=>(aK P p.1,mbx P p.1)))=([0,1,2].map C98,(v8.map λp=>some (.ref (cH p.2.1)),Vo.map λp=>(none,some p.2))):=by kernel_rfl
theorem xN(P:Params):(glL.map (λp=>(aK P p.2.1).bind (Wn (mG P))),((g0L P).map (B29 (tZ P) (mG P)),(tZ P 109,((g0L P).filterMap λp=>n4 p.2))))=
  (glL.map (λp=>some p.2.2),((g0L P).map (C43 (tZ P)),(some (kfO wX),[kfD wX]))):=by kernel_rfl
theorem S7(P:Params):(((hZ P).isNs mainGlobals&&(hZ P).isNs builtinsNs&&((tZ P mainGlobals).isSome&&(tZ P builtinsNs).isSome&&(tZ P sysModules).isSome))&&(g0L P).all (λp=>!Nat.beq p.1 sysModules&&(kX p.2||((n4 p.2).isSome&&Nat.beq p.1 109))))=true:=by kernel_rfl
theorem C18:L8.all (λp=>match oQ p.2 with|some fd=>mP fd&&Nat.ble fd.params.length 7|none=>false)=true:=by kernel_rfl
end
section
open PySem PySem.W PySem.Calls PyProof.Rows
theorem H2{α:Type}{k:Nat}{v:α}:∀{l:List (Nat×α)},Wj k l=some v→(k,v)∈l
 |(j,u)::r,h=>by
  replace h:(match Nat.beq j k with|true=>some u|false=>Wj k r)=some v:=h
  cases e:Nat.beq j k<;>rw[e]at h
  ·exact .tail _ (H2 h)
  ·rw[Bu e,Cd h];exact .head _
theorem aY{x:Str}:∀{l:List Str},Xu x l=true→x∈l
 |y::r,h=>by
  replace h:(match sq x y with|true=>true|false=>Xu x r)=true:=h
  cases e:sq x y<;>rw[e]at h
  ·exact .tail _ (aY h)
  ·rw[Bm.mp e];exact .head _
theorem Dr{α β:Type}{f g:α→β}{l:List α}(h:l.map f=l.map g){x:α}(hx:x∈l):f x=g x:=List.map_inj_left.mp h x hx
theorem mL{x:Str}{fd:Fd}(h:Mine.fn x=some fd):∃i,Wj (Md x) L8=some i∧oQ i=some fd∧wN i=x:=by
 unfold fn at h
 cases hi:Wj (Md x) L8 with
 |none=>rw[hi]at h;exact Ao h
 |some i=>
  rw[hi]at h
  replace h:(match sq (wN i) x with|true=>oQ i|false=>none)=some fd:=h
  cases e:sq (wN i) x<;>rw[e]at h
  ·exact Ao h
  ·exact⟨i,rfl,h,Bm.mp e⟩
theorem zP:Mine.glob "__debug__"=none:=by decide +kernel
theorem Km{α β:Type}{a a':α}{b b':β}(h:(a,b)=(a',b')):a=a':=(Prod.mk.inj h).1
theorem Iq{α β:Type}{a a':α}{b b':β}(h:(a,b)=(a',b')):b=b':=(Prod.mk.inj h).2
theorem My{a b:Bool}(h:(a&&b)=true):a=true:=(Ab h).1
theorem Sj{a b:Bool}(h:(a&&b)=true):b=true:=(Ab h).2
section
variable{P:Params}
theorem j6{a:Addr}(h1:(hZ P).isNs a=true)(h2:(tZ P a).isSome=true):(hZ P).Ns a (nsE (tZ P) a):=
 (Option.isSome_iff_exists.mp h2).elim λo ho=>(Heap.Ns.of_isNs h1).elim λo' q=>q.elim λes q=>q.elim λep q=>by
  obtain rfl:=Cd ((Gp ho).symm.trans q.1)
  refine⟨_,es,ep,Gp ho,q.2.1,q.2.2.1,λname=>?_⟩
  unfold nsE
  rw[ho]
  obtain⟨c,d,dt,sl⟩:=o
  obtain rfl:dt=_:=q.2.1
  rfl
theorem A87{w:World}{h₀:Heap}{G₀:Addr→Option PyData}{c:Nat}(hc:c<3):y4 ⟨C7,w,cH,h₀,G₀,Kx P,aK P,mbx P,Wk⟩ c:=
 have z:=Dr (Km (S6 P)) (En hc:c∈[0,1,2])
 have n:=Km (Km z)
 have b:=Km (Iq z)
 have m:=Iq (Iq z)
 {ga:=(List.cons.inj n).1
  gk:=(List.cons.inj (List.cons.inj n).2).1
  sa:=(List.cons.inj (List.cons.inj (List.cons.inj n).2).2).1
  init:=(List.cons.inj (List.cons.inj (List.cons.inj (List.cons.inj n).2).2).2).1
  dict:=My (Sj b)
  over:=My (Sj (Sj b))
  makes:=Sj (Sj (Sj b))
  attr:=λa ha=>Dr (Iq (Km z)) (aY ha)
  initF:=Km m
  meth:=λx f h=>have y:=Dr (Iq m) (Fr h);⟨Km (Iq (Iq y)),Km y,Km (Iq y),Iq (Iq (Iq y))⟩}
theorem T0{G:Nat→Option PyData}{u:Value}{c:PyData}(h:Wn G u=some c){g:Gh}(hg:∀a x,G a=some x→g.G a=some x):rel g (.d c) u:=by
 cases u with
 |none=>exact Cd h▸rfl
 |bool b=>exact Cd h▸rfl
 |int i t=>exact Cd h▸⟨t,rfl⟩
 |str s t=>exact Cd h▸⟨t,rfl⟩
 |ref a=>
  replace h:(match G a with|some x=>(match D9 x with|true=>some x|false=>none)|none=>none)=some c:=h
  cases e:G a with
  |none=>rw[e]at h;exact Ao h
  |some x=>
   rw[e]at h
   replace h:(match D9 x with|true=>some x|false=>none)=some c:=h
   cases r:D9 x<;>rw[r]at h
   ·exact Ao h
   ·obtain rfl:=Cd h
    show Mb (D9 x) _ _ _
    exact(r)▸⟨a,rfl,hg _ _ e⟩
 |_=>exact Ao h
theorem jL{f:Str}(h:Mine.gfn f=true):∃i,(Md f,i)∈zV∧wN i=f:=by
 unfold gfn at h
 cases e:Wj (Md f) L8 with
 |none=>rw[e]at h;exact Bool.noConfusion h
 |some i=>
  rw[e]at h
  replace h:(Nat.blt i 1000&&(fn f).isSome)=true:=h
  refine Ac λXz hXz=>?_
  obtain⟨fd,hs⟩:=Option.isSome_iff_exists.mp (Sj h)
  obtain⟨j,e1,_,e3⟩:=mL hs
  refine hXz ?_
  obtain rfl:=Cd (e.symm.trans e1)
  exact⟨i,oR ⟨H2 e,My h⟩,e3⟩
theorem u8{x:Str}{c:PyData}(h:Mine.glob x=some c):∃u,aK P x=some u∧Wn (mG P) u=some c:=by
 unfold glob at h
 cases hi:Wj (Md x) glL with
 |none=>rw[hi]at h;exact Ao h
 |some p=>
  rw[hi]at h
  replace h:(match sq p.1 x with|true=>some p.2|false=>none)=some c:=h
  cases e:sq p.1 x<;>rw[e]at h
  ·exact Ao h
  ·have z:=Dr (Km (xN P)) (H2 hi)
   rw[Bm.mp e,Cd h]at z
   exact rI z
variable{w:World}{h₀:Heap}{G₀:Addr→Option PyData}
theorem vC{n:Str}{v:Value}(h:(n,v)∈Vo):Zc ⟨C7,w,cH,h₀,G₀,Kx P,aK P,mbx P,Wk⟩ n v:=have z:=Dr (Iq (Iq (S6 P))) h;⟨Km z,Iq z⟩
theorem vB{f:Str}{b:Bl}(h:nT f=some b):(f,Sa b)∈Vo:=by
 have z:=Fr h
 simp only[List.mem_cons,List.not_mem_nil,or_false,Prod.mk.injEq]at z
 rcases z with⟨rfl,rfl⟩|⟨rfl,rfl⟩|⟨rfl,rfl⟩|⟨rfl,rfl⟩|⟨rfl,rfl⟩<;>simp[Vo]
theorem A68(hh:∀b o,(hZ P).get? b=some o→h₀.get? b=some o)(hG:∀a x,mG P a=some x→G₀ a=some x):Am ⟨C7,w,cH,h₀,G₀,Kx P,aK P,mbx P,Wk⟩ where
 fns:=λf hf=>(jL hf).elim λi q=>have z:=Dr (Iq (nK P)) q.1;q.2▸⟨Km z,Iq z⟩
 clsG:=λf c init h=>have m:=Fr h;have hc:=(Oe h).1;⟨Dr (Km (Iq (S6 P))) m,My (Km (Iq (Dr (Km (S6 P)) (En hc:c∈[0,1,2]))))⟩
 blt:=λf b h=>vC (vB h)
 isi:=vC (by simp[Vo])
 strT:=vC (by simp[Vo])
 rangeT:=vC (by simp[Vo])
 kin:=λa o h=>hh _ _ (Gp (H1 h))
 cls:=λc hc=>A87 hc
 nsG:=(j6 (My (My (My (S7 P)))) (My (My (Sj (My (S7 P)))))).keeps hh
 nsB:=(j6 (Sj (My (My (S7 P)))) (Sj (My (Sj (My (S7 P)))))).keeps hh
 sys:=(Option.isSome_iff_exists.mp (Sj (Sj (My (S7 P))))).imp λo ho=>hh _ _ (Gp ho)
 consts:=λx c h=>(u8 h).imp λu q=>⟨q.1,λg hg=>T0 q.2 λa x hx=>hg a x (hG a x hx)⟩
 debug:=zP
end
end
section
open PySem PySem.W PySem.Calls PyProof.Rows
theorem wK{α:Type}{l:List α}(d:α)(h:l.length≤7):r8 (λi=>l.getD i d) l.length=l:=by
 refine List.ext_getElem? λi=>?_
 unfold r8
 rw[List.getElem?_take]
 split
 ·rename_i hi
  rw[List.getElem?_map,List.getElem?_range (Nat.lt_of_lt_of_le hi h),List.getElem?_eq_getElem hi]
  exact congrArg some (List.getD_eq_getElem?_getD.trans (congrArg (Option.getD · d) (List.getElem?_eq_getElem hi)))
 ·rename_i hi
  exact(List.getElem?_eq_none (Nat.not_lt.mp hi)).symm
theorem W2{α β γ:Type}{f:α→γ}{g:β→γ}:∀{l:List α}{m:List β},l.map f=m.map g→A6 (λa b=>f a=g b) l m
 |[],[],_=>.nil
 |_::_,_::_,h=>.cons (List.cons.inj h).1 (W2 (List.cons.inj h).2)
theorem k9{p:SK×V}{v:Value}(h:some p=(B74 v).map (SK.val,·)):p.1=.val∧∀g:Gh,rel g p.2 v:=by
 cases v with
 |int i t=>exact Cd h▸⟨rfl,λg=>⟨t,rfl⟩⟩
 |str s t=>exact Cd h▸⟨rfl,λg=>⟨t,rfl⟩⟩
 |_=>exact Ao h.symm
theorem uI{G:Nat→Option Obj}{a:Nat}{d:FuncData}(h:fnD G a=some d):∃o,G a=some o∧o.data=.func d:=by
 unfold fnD at h
 cases e:G a with
 |none=>rw[e]at h;exact Ao h
 |some o=>
  rw[e]at h
  obtain⟨c,di,dt,sl⟩:=o
  cases dt with
  |func fd=>exact⟨_,rfl,congrArg Data.func (Cd h)⟩
  |_=>exact Ao h
section
variable{P:Params}
theorem nH{c:Value}{q:Str}(h:nJ (tZ P) c q=true):(hZ P).CodeRec c q:=by
 unfold nJ at h
 cases e:(wH c).bind λa=>(tZ P a).bind λo=>(mN o).bind λvs=>(vs[1]?).bind w6 with
 |none=>rw[e]at h;exact Bool.noConfusion h
 |some x=>
  rw[e]at h
  obtain⟨a,ea,e⟩:=rI e
  obtain⟨o,eo,e⟩:=rI e
  obtain⟨vs,ev,e⟩:=rI e
  obtain⟨v,e1,e⟩:=rI e
  obtain⟨t,rfl⟩:∃t,v=.str x t:=by cases v<;>first|exact Ao e|exact⟨_,congrArg (Value.str · _) (Cd e)⟩
  obtain rfl:c=.ref a:=by cases c<;>first|exact Ao ea|exact congrArg Value.ref (Cd ea)
  exact⟨a,o,vs,t,rfl,Gp eo,by obtain⟨_,_,d,_⟩:=o;cases d<;>first|exact Ao ev|exact congrArg Data.fields (Cd ev),e1.trans (by rw[Bm.mp h])⟩
theorem V9{i k:Nat}{fd:Fd}(hm:(k,i)∈L8)(e:oQ i=some fd):mP fd=true∧fd.params.length≤7:=by
 have z:=Be C18 _ hm
 replace z:(match oQ i with|some fd=>mP fd&&Nat.ble fd.params.length 7|none=>false)=true:=z
 rw[e]at z
 exact⟨My z,Nat.le_of_ble_eq_true (Sj z)⟩
variable{w:World}{h₀:Heap}{G₀:Addr→Option PyData}
theorem A65(hh:∀b o,(hZ P).get? b=some o→h₀.get? b=some o)(hn:h₀.NoLimit):Qh ⟨C7,w,cH,h₀,G₀,Kx P,aK P,mbx P,Wk⟩ where
 nolim:=hn
 ok:=λf fd hf=>(mL hf).elim λi q=>(V9 (H2 q.1) q.2.1).1
 at':=λf fd hf=>by
  obtain⟨i,e1,e2,_⟩:=mL hf
  have hm:=H2 e1
  have z:=Dr (Km (nK P)) hm
  rw[show(oQ i).map _=_ from congrArg _ e2]at z
  refine Ac λXz hXz=>?_
  obtain⟨d,e3,z⟩:=rH z
  obtain⟨o,ho,hd⟩:=uI e3
  refine hXz ?_
  have z2:=Iq z;have z3:=Iq z2;have z4:=Iq z3;have z5:=Iq z4
  refine⟨d,⟨o,hh _ _ (Gp ho),hd⟩,Km z,Km z2,Km z3,Km z4,Km z5,(nH (Iq z5)).keeps hh,λrs ρ hρ us hl=>?_⟩
  refine Ac λXz hXz=>?_
  obtain⟨b1,ρ1,ρ2,rfl,al⟩:=Fb _ _ _ _ hρ
  refine hXz ?_
  have h7:us.length≤7:=by
   refine Ag ?_ (V9 hm e2).2
   rw[hl,al.length,← b1,List.length_map,List.length_append]
   exact Nat.le_add_right _ _
  have key:∀S:Setting,bnQ (Kx P) (tZ P) S (λi=>us.getD i .none) (λi=>rs.getD i (.d .none,.cl)) fd d us.length=bnW (tZ P) (λi=>us.getD i .none) (λi=>rs.getD i (.d .none,.cl)) fd d us.length:=λS=>by
   have y:=Dr (C19 P S (λi=>us.getD i .none) (λi=>rs.getD i (.d .none,.cl))) hm
   unfold A93 at y
   rw[show oQ ((Md f,i):Nat×Nat).2=_ from e2]at y
   replace y:(fnD (tZ P) ((Wj (Md f) W3).getD 0)).map _=(fnD (tZ P) ((Wj (Md f) W3).getD 0)).map _:=y
   rw[e3]at y
   exact Dr (Cd y) (En (Nat.lt_succ_of_le h7))
  have bd:bdQ fd (λi=>rs.getD i (.d .none,.cl)) us.length=some (((ρ1++ρ2).drop us.length).map (·.2)):=by
   unfold bdQ
   rw[hl,wK _ (hl▸h7),hρ]
   rfl
  unfold bnQ bnW at key
  rw[bd,wK _ h7]at key
  refine⟨vsO (tZ P) d fd.params.length us.length,?_,λs hs=>kp_binds (K:=Kx P) (λa o h=>hs _ _ (hh _ _ (Gp (H1 h)))) λS=>Iq (Cd (key S))⟩
  have y:=Km (Cd (key ⟨C7,w.params⟩))
  rw[List.map_map]at y
  exact(W2 y).imp λp v h=>k9 h
end
end
section
open PySem PySem.W PySem.Calls PyProof.Rows
abbrev Wo:OpenLaw:=Challenge.rw_xm0489_01
section
variable{P:Params}{h:Heap}{vs:List Value}{ds:List WData}{v:Value}{x:WData}
theorem fL(w:WellAll P h vs ds)(e:ds=[]):vs=[]:=by
 cases w with
 |nil=>rfl
 |cons=>exact absurd e (List.cons_ne_nil _ _)
theorem Zf{d:WData}{r:List WData}(w:WellAll P h vs ds)(e:ds=d::r):∃v us,vs=v::us∧Well P h v d∧WellAll P h us r:=by
 cases w with
 |nil=>exact absurd e.symm (List.cons_ne_nil _ _)
 |cons h1 h2=>
  cases e
  exact⟨_,_,rfl,h1,h2⟩
noncomputable def B91:WData→Bool
 |.list _=>true
 |_=>false
noncomputable def B92:WData→Bool
 |.int _=>true
 |_=>false
noncomputable def WF(P:Params)(h:Heap)(v:Value)(x:WData):Prop:=(B91 x=true→∃a us xs,x=.list xs∧v=.ref a∧h.get? a=some {cls:=.type "list",data:=.seq us.toArray}∧WellAll P h us xs)∧(B92 x=true→∃i t,x=.int i∧v=.int i t)
theorem WF.no(h1:B91 x=false)(h2:B92 x=false):WF P h v x:=⟨λq=>Bool.noConfusion (h1.symm.trans q),λq=>Bool.noConfusion (h2.symm.trans q)⟩
theorem fM(w:Well P h v x):WF P h v x:=by
 cases w with
 |list ho wl=>exact⟨λη=>⟨_,_,_,rfl,rfl,ho,wl⟩,λq=>Bool.noConfusion q⟩
 |int i t=>exact⟨λq=>Bool.noConfusion q,λη=>⟨i,t,rfl,rfl⟩⟩
 |_=>exact .no rfl rfl
theorem yA{xs:List WData}(w:Well P h v (.list xs)):∃a us,v=.ref a∧h.get? a=some {cls:=.type "list",data:=.seq us.toArray}∧WellAll P h us xs:=
 ((fM w).1 rfl).imp λa=>Exists.imp λus z=>z.elim λxs z=>by
  cases z.1
  exact z.2
theorem B24{i:Int}(w:Well P h v (.int i)):∃t,v=.int i t:=
 ((fM w).2 rfl).elim λi=>Exists.imp λt z=>by
  cases z.1
  exact z.2
end
theorem sT{P:Params}{h:Heap}{ds:List WData}:∀{vs:List Value},WShape.hasItems [] ds .int=true→WellAll P h vs ds→∃is:List Int,ds=is.map .int∧A6 (λ(i:Int) v=>∃t,v=.int i t) is vs:=by
 induction ds with
 |nil=>exactλη w=>⟨[],rfl,fL w rfl▸.nil⟩
 |cons d ds ih=>
  exactλhs w=>(hasW_int (My hs)).elim λi e=>(Zf w rfl).elim λv z=>z.elim λus z=>(ih (Sj hs) z.2.2).elim λis y=>⟨i::is,e▸y.1▸rfl,z.1▸.cons (B24 (e▸z.2.1)) y.2⟩
theorem A07{is:List Int}(h:Wo.row.toRowW.pre.holds [] {args:=[WData.list (is.map .int)]}=true):is.length≤63:=by
 have hv:WTm.value [] (.not (.lt (.lit (.int 63)) (.len (.arg 0)))) {args:=[WData.list (is.map .int)]}=some (.bool (!decide ((63:Int) <(is.length:Int)))):=by
  simp[WTm.value]
  rfl
 have:=condW_of (holds_andW h).1 hv
 simp at this
 omega
theorem vH{P:Params}{h:Heap}{args:List WData}{vals:List Value}(hpre:Wo.row.toRowW.claim.pre args=true)(hwl:WellAll P h vals args):
  ∃(is:List Int) (a:Addr) (vs:List Value),args=[.list (is.map .int)]∧vals=[.ref a]∧h.get? a=some {cls:=.type "list",data:=.seq vs.toArray}∧A6 (λ(i:Int) v=>∃t,v=.int i t) is vs∧is.length≤63:=by
 have p:=pre_splitW hpre
 exact(hasAllW_cons p.1).elim λd z=>z.elim λr z=>(hasW_list z.2.1).elim λxs y=>(Zf hwl z.1).elim λv q=>q.elim λus q=>(yA (y.1▸q.2.1)).elim λa u=>u.elim λvs u=>(sT y.2 u.2.2).elim λis n=>by
  obtain rfl:args=[.list (is.map .int)]:=z.1.trans (y.1▸n.1▸hasAllW_nil z.2.2▸rfl)
  exact⟨is,a,vs,rfl,q.1.trans (u.1▸fL q.2.2 (hasAllW_nil z.2.2)▸rfl),u.2.1,n.2,A07 p.2⟩
theorem pS(P:Params):((hZ P).get? sysModules).map (·.cls)=some (.type "dict"):=by kernel_rfl
theorem kA{P:Params}{h:Heap}(hh:∀b o,(hZ P).get? b=some o→h.get? b=some o){a:Addr}{d:Data}(ho:h.get? a=some {cls:=.type "list",data:=d}):(a==sysModules)=false:=
 nS λe=>(rH (pS P)).elim λo z=>absurd ((congrArg Obj.cls (Cd ((hh _ _ z.1).symm.trans (e▸ho)))).symm.trans z.2) (show¬(Value.type "list"=Value.type "dict")by decide)
noncomputable def G0(G:Nat→Option PyData)(sa:Addr)(is:List Int)(a:Addr):Option PyData:=(G a).or (match Nat.beq a sa with|true=>some (.list (is.map .int))|false=>none)
noncomputable abbrev gh0(G:Nat→Option PyData)(sa:Addr)(is:List Int):Gh:=⟨0,G0 G sa is,λη=>0,λη=>0⟩
section
variable{G:Nat→Option PyData}{sa:Addr}{is:List Int}{a:Addr}{x:PyData}
theorem y3(e:G a=some x):G0 G sa is a=some x:=by unfold G0;rw[e];rfl
theorem C36(e:G sa=none):G0 G sa is sa=some (.list (is.map .int)):=by unfold G0;rw[e,Nat.beq_refl];rfl
theorem oM(h:G0 G sa is a=some x):G a=some x∨(a=sa∧x=.list (is.map .int)):=by
 refine(Option.or_eq_some_iff.mp h).imp id λq=>?_
 have h:=q.2
 cases e:Nat.beq a sa<;>rw[e]at h
 ·exact Ao h
 ·exact⟨Bu e,(Cd h).symm⟩
end
section
variable{prog:Program}{w:World}{g:Gh}
noncomputable abbrev kfP(l:List (Int×Tok×Int×Tok)):List ((Int⊕Str)×Value):=l.map λq=>(.inl q.1,.int q.2.2.1 q.2.2.2)
theorem Uq:∀l:List (Int×Tok×Int×Tok),Pairs (aJ prog w) (l.map λq=>(⟨q.1,.int q.1 q.2.1,.int q.2.2.1 q.2.2.2⟩:DictEntry)) (kfP l)
 |[]=>.nil
 |q::l=>.cons (show He (.inl q.1) (.int q.1 q.2.1)=true from Ei q.1 q.2.1) rfl (Uq l)
theorem kM:∀l:List (Int×Tok×Int×Tok),Qf g (dV (kfD l)) (kfP l)
 |[]=>.nil
 |_::l=>.cons ⟨rfl,⟨_,rfl⟩⟩ (kM l)
variable(prog w)in
theorem sO:wX.map (λq=>(intKind prog w).hash q.1)=wX.map (·.1):=by kernel_rfl
variable{F:Cc}
theorem sN:El F g (kfO wX) (.dict (kfD wX)):=
 ⟨by decide,kfP wX,⟨_,_,⟨rfl,rfl,rfl⟩,rfl,λe he=>by
  obtain⟨q,hq,rfl⟩:=aG (List.mem_toArray.mp he)
  exact⟨.inl q.1,Ei q.1 q.2.1,(Dr (sO F.prog F.w) hq).symm⟩,Uq _,by decide⟩,kM _⟩
end
theorem Uc{G:Nat→Option PyData}:∀{vs:List Value}{ds:List PyData},vs.mapM (Wn G)=some ds→A6 (λd v=>Wn G v=some d) ds vs
 |[],ds,h=>Cd h▸.nil
 |v::vs,ds,h=>by
  rw[List.mapM_cons]at h
  refine Ac λXz hXz=>?_
  obtain⟨d,e1,h⟩:=rI h
  obtain⟨r,e2,h⟩:=rI h
  refine hXz ?_
  exact Cd h▸.cons e1 (Uc e2)
section
variable{P:Params}{F:Cc}{g:Gh}{a:Addr}{x:PyData}
theorem qL(h:mG P a=some x)(hg:∀a x,mG P a=some x→g.G a=some x):∃o,(hZ P).get? a=some o∧El F g o x∧o.cls≠.type "list":=by
 have hm:=H2 h
 have hs:=Sj (Be (Sj (S7 P)) _ hm)
 have z:=Iq (xN P)
 have ht:=Dr (Km z) hm
 have hx:x=.dict (kfD wX)∧a=109∨∃xs,x=.tuple xs:=by
  cases x with
  |tuple xs=>exact .inr ⟨xs,rfl⟩
  |dict kvs=>
   have hk:kvs∈(g0L P).filterMap λp=>n4 p.2:=List.mem_filterMap.mpr ⟨_,hm,rfl⟩
   rw[Iq (Iq z)]at hk
   exact .inl ⟨congrArg PyData.dict (Hd hk),Bu hs⟩
  |_=>exact Bool.noConfusion hs
 rcases hx with⟨rfl,rfl⟩|⟨xs,rfl⟩
 ·exact⟨_,Gp (Km (Iq z)),sN,by simp[kfO]⟩
 ·replace ht:((tZ P a).bind λo=>(kU o).map λvs=>(o,(vs.toList.mapM (Wn (mG P))).map PyData.tuple,Nat.ble vs.size I1))=some (({cls:=.type "tuple",data:=.seq (((tZ P a).bind kU).getD #[])}:Obj),some (.tuple xs),true):=ht
  obtain⟨o,e,ht⟩:=rI ht
  obtain⟨vs,ev,ht⟩:=rH ht
  obtain⟨ds,hd,e2⟩:=rH (Km (Iq ht))
  obtain rfl:=PyData.tuple.inj e2
  have al:=Uc hd
  have ho:=Km ht
  rw[e,show(some o).bind kU=some vs from ev]at ho
  exact⟨o,Gp e,⟨by rw[← al.length,Array.length_toList];exact Nat.le_of_ble_eq_true (Iq (Iq ht)),vs,0,ho,al.imp λd v e=>T0 e hg⟩,by rw[ho];simp⟩
theorem A59(e:mG P a=some x):(a==sysModules)=false:=
 nS (Nat.ne_of_beq_eq_false ((Bool.not_eq_true' _).mp (My (Be (Sj (S7 P)) (a,x) (H2 e)))))
end
theorem eZ{α β γ:Type}{R:γ→β→Prop}{f:α→γ}{l:List α}{m:List β}(h:A6 (λa b=>R (f a) b) l m):A6 R (l.map f) m:=by
 induction h with
 |nil=>exact .nil
 |cons h _ ih=>exact .cons h ih
theorem sS{F:Cc}{hz:Heap}{G:Nat→Option PyData}{sa:Addr}{is:List Int}{vs:List Value}(hF:F.G₀=G0 G sa is)(hh:∀b o,hz.get? b=some o→F.h₀.get? b=some o)
  (hG:∀(g:Gh) a x,G a=some x→(∀a x,G a=some x→g.G a=some x)→∃o,hz.get? a=some o∧El F g o x∧o.cls≠.type "list") (hs:∀a x,G a=some x→(a==sysModules)=false)
  (ho:F.h₀.get? sa=some {cls:=.type "list",data:=.seq vs.toArray}) (al:A6 (λ(i:Int) v=>∃t,v=.int i t) is vs) (hl:is.length≤63) (hlo:(sa==sysModules)=false):
  G sa=none∧Hb F (gh0 G sa is) [] F.h₀ where
 left:=nnI λx e=>(hG ⟨0,G,λη=>0,λη=>0⟩ _ _ e λη η x=>x).elim λo q=>q.2.2 (congrArg Obj.cls (Cd ((hh _ _ q.1).symm.trans ho)))
 right:={
  size:=rfl
  gam:=λa x e=>(oM e).elim (λe'=>(hG (gh0 G sa is) _ _ e' λη η=>y3).imp λo q=>⟨hh _ _ q.1,q.2.1⟩) λq=>by
   obtain⟨rfl,rfl⟩:=q
   exact⟨_,ho,by rw[List.length_map];exact Ag hl (by decide),vs.toArray,0,rfl,eZ (f:=PyData.int) (R:=Bp _) al⟩
  obj:=λk m e=>Ao e
  apart:=λj k hj=>absurd hj (Nat.not_lt_zero _)
  own:=λb q=>q.elim λk q=>absurd q.1 (Nat.not_lt_zero _)
  base:=λb o e=>e
  first:=λa x e=>(congrFun hF a).symm.trans e
  sys:=λa x e=>(oM e).elim (λe'=>hs _ _ e') λq=>q.1▸hlo}
end
section
open PySem PySem.W
theorem Si{a b:Bool}(x:a=true)(y:b=true):(a&&b)=true:=by rw[x,y];rfl
theorem B45:Fast.tw17960256430627541270 (Fast.tw2368527892694137696 Wo)=true:=by
 unfold Fast.tw17960256430627541270
 with_reducible repeat' apply Si
 unfold Fast.tw2436336058641802641
 with_reducible repeat' apply Si
 unfold Fast.tw12908688711261696721
 with_reducible repeat' apply Si
 all_goals as_aux_lemma=>kernel_rfl
theorem B46:Wo.wellSaid=true:=by
 rw[PySem.W.Fast.te9446332074065402090]
 unfold PySem.W.Fast.tw9446332074065402090
 with_reducible repeat' apply Si
 exact B45
 all_goals as_aux_lemma=>kernel_rfl
end
section
open PySem PySem.W PySem.Calls PyProof.Rows
theorem sL:Mine.gfn Uo=true:=by decide +kernel
noncomputable abbrev KK:Nat:=70
noncomputable def cE:Prop:=∀is:List Int,is.length≤63→∃σ,(cx KK).call Uo [(.d (.list (is.map .int)),.cl)] []=some ((.d (.bool true),.cl),σ)
noncomputable abbrev oO(s:Shared)(r:Result)(s':Shared):Prop:=r=.ok (.ret (.bool true))∧(∀b o,s.heap.get? b=some o→s'.heap.get? b=some o)∧s'.os=s.os∧s'.gens=s.gens
theorem sM(plain:cE){F:Cc}(hF:Am F)(hX:Qh F){b:Shared}{g:Gh}(hI:Hb F g [] b.heap){is:List Int}{sa:Addr}(hl:is.length≤63)(hG:g.G sa=some (.list (is.map .int))):
  codeAny F.M callerA (.call (.ref (F.FV Uo)) ⟨[.ref sa],[]⟩) (oO b) b:=by
 obtain⟨σ,hc⟩:=plain is hl
 have hC:=(w9 hF hX KK).1 _ _ _ _ _ hc callerA b ⟨b.heap,b.toks,g,hI⟩ [.ref sa] ⟨rfl,by decide,by decide⟩ (.cons ⟨sa,rfl,hG⟩ .nil)
  (λu s'=>oO b (.ok (.ret u)) s')
  (λm' u st r=>⟨(r:u=.bool true)▸rfl,λx o e=>st.keep x o e (λ⟨k,hk,_⟩=>absurd (hI.size▸hk) (Nat.not_lt_zero _)) id,rfl,rfl⟩)
 refine codeAny_mono hC λr s' h=>?_
 match r,h with
 |.ok (.ret u),h=>exact h
theorem kL(plain:cE){w:World}{s:Shared}(hh:∀b o,(hZ w.params).get? b=some o→s.heap.get? b=some o)(hn:s.heap.NoLimit){is:List Int}{sa:Addr}{vs:List Value}
  (ho:s.heap.get? sa=some {cls:=.type "list",data:=.seq vs.toArray}) (al:A6 (λ(i:Int) v=>∃t,v=.int i t) is vs) (hl:is.length≤63):
  codeAny (model C7 w) callerA (.call (.ref (Wk Uo)) ⟨[.ref sa],[]⟩) (oO s) s:=by
 have hGI:=sS (F:=⟨C7,w,cH,s.heap,G0 (mG w.params) sa is,Kx w.params,aK w.params,mbx w.params,Wk⟩) (G:=mG w.params) rfl hh (λg a x e hg=>qL e hg) (λa x e=>A59 e) ho al hl (kA hh ho)
 exact sM (F:=⟨C7,w,cH,s.heap,G0 (mG w.params) sa is,Kx w.params,aK w.params,mbx w.params,Wk⟩) plain (A68 hh λa x e=>y3 e) (A65 hh hn) hGI.2 hl (C36 hGI.1)
theorem qX(is:List Int):Wo.row.claim.post [WData.list (is.map .int)] (.bool true) [WData.list (is.map .int)]=true:=by wrow_post
theorem rM{h:Heap}{a:Addr}{m n:Str→Option Value}(x:h.Ns a m)(y:h.Ns a n):m=n:=x.eq_nsMap.trans y.eq_nsMap.symm
theorem B28:C7.tablesWhole=true:=by
 show TablesWhole.wProgram ⟨λsc n η=>sc.bears n,λη η η ok=>ok,λη=>true,true,false,λa b=>a&&b⟩ C7=true
 unfold TablesWhole.wProgram
 rw[PySem.W.Fast.te6116379765354995101,PySem.W.Fast.te15985051520779696433]
 kernel_rfl
theorem z6(plain:cE)(said:Wo.row.wellSaid=true):Wo.row.Holds:=by
 refine holds_open (q:=qv) (loose:=lv) (Xt:=Xt0) (XP:=λη η=>True) (Yf:=λs=>s.heap) (Ya:=λw=>hZ w.params) (YP:=λw h=>∀b o,(hZ w.params).get? b=some o→h.get? b=some o) (N:=20000)
  B76 (λw s e=>by rw[e];exactλb o x=>x) (λw h h' x k b o e=>k b o (x b o e)) (λη η=>trivial) (λη η η η η=>trivial) (by rfl) (by rfl) (by rfl) (λs η=>recFacts_nil rfl) (by rfl) said (by decide +kernel) ⟨rfl,rfl,rfl,rfl,rfl,B28⟩ ?hw ?hc
 case hw=>w_witness2
 case hc=>
  intro w s₀ s₁ mg mb G Y fa o pm cd doc dV kV ho hd hcd hD hmg hg args vals as hpre hlay hrd hwl hlo
  obtain⟨is,sa,vs,rfl,rfl,hsa,al,hl⟩:=vH hpre hwl
  have hm:mg=aK w.params:=rM G.T.g ((j6 (My (My (My (S7 w.params)))) (My (My (Sj (My (S7 w.params)))))).keeps Y)
  have hf:=(jL sL).elim λi q=>(q.2▸Km (Dr (Iq (nK w.params)) q.1):aK w.params Uo=some (.ref (Wk Uo)))
  rw[← hm]at hf
  obtain rfl:fa=Wk Uo:=Value.ref.inj (Cd (hmg.symm.trans hf))
  refine enter_call (codeAny_mono (kL plain Y G.T.nolimit hsa al hl) λr s' h=>?_)
  obtain⟨rfl,h1,h2,h3⟩:=h
  exact GoodW.toG ⟨.inl ⟨.bool true,.bool true,[],rfl,λcls=>rfl,.bool true,qX is,λη=>⟨List.nodup_nil,λa ha=>nomatch ha⟩⟩,h1,h2,h3.trans hg⟩
theorem A09(plain:cE):Challenge.rw_xm0489_01.Holds:=by
 refine holds_law B46 λsaid=>z6 plain said
theorem law_all:Challenge.rw_xm0489_01.Holds:=A09 λis η=>dI 47 is
end
end Mine
theorem PySem.Challenge.cw_xm0489_01_holds : PySem.Challenge.rw_xm0489_01.Holds :=
 Mine.law_all
