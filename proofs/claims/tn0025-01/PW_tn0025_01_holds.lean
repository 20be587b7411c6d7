import PyProof.Rows.All
import Wide.All
import OpenK.AllK
import Wide.FinOn
import PyProof.Rows.TupMore
import Lean
import PySem.Challenge.RW_tn0025_01
set_option maxRecDepth 1000000
set_option autoImplicit false
set_option genInjectivity false
set_option genSizeOf false
set_option genSizeOfSpec false
set_option tactic.hygienic false
set_option backward.match.sparseCases false
set_option genCtorIdx false
set_option bootstrap.genMatcherCode false
set_option Elab.async false
set_option linter.all false
namespace Mine
open PySem PySem.W PyProof.Rows
section
set_option genCtorIdx true
theorem ns{β:Type}{b:β}{G:Prop}(h:(none:Option β)=some b):G:=nomatch h
theorem Xz{a b:Bool}(h:(a&&b)=true):a=true/\b=true:=(Bool.and_eq_true a b).mp h
theorem ns2{β:Type}{o:Option β}{b:β}{G:Prop}(h:o=none)(e:o=some b):G:=ns (h.symm.trans e)
theorem nf{G:Prop}(h:false=true):G:=nomatch h
inductive MV where
 |none
 |bool (b:Bool)
 |int (i:Int)
 |str (s:Str)
 |tup (l:List MV)
 |lst (l:List MV)
 |obj (cls:Nat) (fs:List (Str×MV))
 |dct (l:List (MV×MV))
 |con (v:Value)
inductive OF where
 |f (m:MV)
 |l (vs:List MV)
inductive OV where
 |f (m:MV)
 |l (vs:List MV)
 |o (cls:Nat) (fs:List (Str×OF))
noncomputable def OF.frz:OF->MV
 | .f m=>m
 | .l vs=>.lst vs
noncomputable def OV.frz:OV->MV
 | .f m=>m
 | .l vs=>.lst vs
 | .o c fs=>.obj c (fs.map λp=>(p.1,p.2.frz))
noncomputable def OF.ov:OF->OV
 | .f m=>.f m
 | .l vs=>.l vs
noncomputable def Zlx{α:Type}(x:Str)(v:α):List (Str×α)->List (Str×α)
 | []=>[(x,v)]
 |p::r=>if p.1=x then(x,v)::r else p::Zlx x v r
inductive Fl where
 |next|cont
 |ret (v:OV)
inductive Pol where
 |frz|lend|move
 deriving DecidableEq
structure Fn where
 params:List Str
 pols:List Pol
 dflts:List MV
 body:List Stmt
 names:List (Str×NameKind)
structure Tab where
 fn:Nat->Option Fn
 glob:Str->Option MV
 meth:Nat->Str->Option Nat
 exc:Nat->Bool
 plain:Nat->Str->Bool
noncomputable abbrev Sc:=List (Str×NameKind)
mutual
noncomputable def Zdc(n:Nat):MV->Option PyData
 | .none=>some .none
 | .bool b=>some (.bool b)
 | .int i=>some (.int i)
 | .str s=>if PyData.strOk s then some (.str s)else Option.none
 | .tup l=>if n=0 then Option.none else(Yx (n - 1) l).map .tuple
 | .lst l=>if n=0 then Option.none else(Yx (n - 1) l).map .list
 |_=>Option.none
noncomputable def Yx(n:Nat):List MV->Option (List PyData)
 | []=>some []
 |m::r=>(Zdc n m).bind λa=>(Yx n r).map (a::·)
end
noncomputable def Jr:MV->Option Int
 | .int i=>some i
 |_=>none
noncomputable def Zii:MV->Option Str
 | .str s=>some s
 |_=>none
noncomputable def Zcv:MV->Option (List MV)
 | .lst s=>some s
 |_=>none
noncomputable def Zhc{α:Type}(l:List MV)(k:MV->Option α):Option α:=match l with
 |a::r=>(match r with| []=>k a|_=>none)
 | []=>none
noncomputable def ZTf{α:Type}(l:List MV)(k:MV->MV->Option α):Option α:=match l with
 |a::r=>Zhc r (k a)
 | []=>none
noncomputable abbrev Zr:Nat:=8
noncomputable def Zil(a b:MV):Option Bool:=(Zdc Zr a).bind λx=>(Zdc Zr b).map λy=>PyData.eqv x y
noncomputable def meq(a b:MV):Option Bool:=match b with
 | .lst k=>(match k with| []=>(match a with| .lst l=>some l.isEmpty|a=>Zil a (.lst []))|k=>Zil a (.lst k))
 |b=>Zil a b
noncomputable def isNone:MV->Bool
 | .none=>true
 | .con v=>v==Value.none
 |_=>false
noncomputable def Zdl(a:MV)(l:List MV):Option Bool:=(Zdc Zr a).bind λx=>(Yx Zr l).map λys=>ys.any λy=>PyData.eqv y x
noncomputable def Zhx(k:Str):List (MV×MV)->Option MV
 | []=>none
 |p::r=>(Zii p.1).bind λx=>if x=k then some p.2 else Zhx k r
noncomputable def ZRs(a:MV)(b:OV):Option Bool:=match b with
 | .l l=>Zdl a l
 | .f m=>(match m with| .lst l=>Zdl a l| .tup l=>Zdl a l| .dct l=>(Zii a).map λk=>(Zhx k l).isSome|_=>none)
 |_=>none
noncomputable def Zqp(b:OV)(r:Bool):Option Bool:=match b with
 | .f m=>(match m with| .none=>some r|_=>none)
 |_=>none
noncomputable def Qa{α:Type}(f:Int->Int->Option α)(a b:MV):Option α:=(Jr a).bind λx=>(Jr b).bind λy=>f x y
noncomputable def Ym(op:CmpOp)(a:MV)(b:OV):Option Bool:=match op with
 | .Eq=>meq a b.frz
 | .NotEq=>(Zil a b.frz).map (!·)
 | .Is=>Zqp b (isNone a)
 | .IsNot=>Zqp b (!isNone a)
 | .In=>ZRs a b
 | .NotIn=>(ZRs a b).map (!·)
 | .Lt=>Qa (λx y=>some (decide (x < y))) a b.frz
 | .LtE=>Qa (λx y=>some (decide (x<=y))) a b.frz
 | .Gt=>Qa (λx y=>some (decide (x > y))) a b.frz
 | .GtE=>Qa (λx y=>some (decide (x>=y))) a b.frz
noncomputable abbrev Zb:Nat:=10000
noncomputable def Zgc(i:Int):Option OV:=some (.f (.int i))
noncomputable def ZOh(a b:MV):Option OV:=match a with
 | .int x=>(Jr b).bind λy=>Zgc (x+y)
 | .str x=>(Zii b).bind λy=>if x.length+y.length<=Zb then some (.f (.str (x++y)))else none
 | .lst x=>(Zcv b).bind λy=>if x.length+y.length<=Zb then some (.l (x++y))else none
 |_=>none
noncomputable def ZLc(a b:MV):Option OV:=match a with
 | .int x=>(Jr b).bind λy=>if x.natAbs < 2 ^ 60\/y.natAbs < 2 ^ 60 then Zgc (x*y)else none
 | .lst l=>Zhc l λx=>(Jr b).bind λn=>if 0<=n/\n<=Zb then some (.l (List.replicate n.toNat x))else none
 |_=>none
noncomputable def Zcs(op:Operator)(a b:MV):Option OV:=match op with
 | .Add=>ZOh a b
 | .Mult=>ZLc a b
 | .Sub=>Qa (λx y=>Zgc (x - y)) a b
 | .FloorDiv=>Qa (λx y=>if y=0\/1073741824<=y.natAbs then none else Zgc (Int.fdiv x y)) a b
 | .Mod=>Qa (λx y=>if y=0 then none else Zgc (Int.fmod x y)) a b
 | .Pow=>Qa (λx y=>if 0<=y/\y<=100/\x.natAbs < 2 ^ 64 then Zgc (x ^ y.toNat)else none) a b
 |_=>none
noncomputable def idx(k:Int)(n:Nat):Option Nat:=
 if 0<=k then(if k.toNat < n then some k.toNat else none)else if 0<=k+n then some (k+n).toNat else none
noncomputable def Zfw(k:Int)(n:Nat):Nat:=if 0<=k then min k.toNat n else(k+n).toNat
noncomputable def cut{α:Type}(lo hi:Option Int)(l:List α):List α:=
 let a:=lo.elim 0 (Zfw · l.length)
 let b:=hi.elim l.length (Zfw · l.length)
 (l.take b).drop a
noncomputable def Zea(vs:List MV)(i:MV):Option MV:=(Jr i).bind λk=>(idx k vs.length).bind (vs[·]?)
noncomputable def getItem(m:OV)(i:MV):Option MV:=match m with
 | .l vs=>Zea vs i
 | .f m=>(match m with| .lst vs=>Zea vs i| .tup vs=>Zea vs i| .dct l=>(Zii i).bind λk=>Zhx k l|_=>none)
 |_=>none
noncomputable def Zzh(vs:List MV)(lo hi:Option Int):Option OV:=match hi with
 |none=>lo.bind λk=>if 0<=k/\k.toNat<=vs.length then some (.f (.tup (vs.drop k.toNat)))else none
 |_=>none
noncomputable def Zbl(m:OV)(lo hi:Option Int):Option OV:=match m with
 | .l vs=>some (.l (cut lo hi vs))
 | .f m=>(match m with| .lst vs=>some (.l (cut lo hi vs))| .tup vs=>Zzh vs lo hi| .str s=>if s.length<=Zb then some (.f (.str ⟨(cut lo hi s.cps.toList).toArray⟩))else none|_=>none)
 |_=>none
noncomputable def ZJe(vs:List MV)(k:Int)(v:MV):Option (List MV):=if 0<=k/\k.toNat < vs.length then some (vs.set k.toNat v)else none
noncomputable def Zgz(v:OV)(k m:MV):Option OV:=match v with
 | .l vs=>(Jr k).bind λi=>(ZJe vs i m).map .l
 |_=>none
noncomputable def Jq:List MV->Option (List Int)
 | []=>some []
 |m::r=>(Jr m).bind λi=>(Jq r).map (i::·)
noncomputable def Zde(x:Str):List MV:=x.cps.toList.map λc=>.str ⟨#[c]⟩
noncomputable def Zvk(s:Str):Option (List MV):=if s.length<=Zb then some (Zde s)else none
noncomputable def Zrv(m:MV):Option (List MV):=match m with
 | .lst l=>some l
 | .str s=>Zvk s
 |_=>none
noncomputable def items(m:MV):Option (List MV):=match m with
 | .tup l=>some l
 |m=>Zrv m
noncomputable def Xl(n:Int):List MV->List MV
 | []=>[]
 |m::r=>.tup [.int n,m]::Xl (n+1) r
noncomputable def Zze(a b:List MV):List MV:=List.zipWith (λa b=>.tup [a,b]) a b
noncomputable def Jj(a b:Int):List MV:=(List.range (b - a).toNat).map λi=>.int (a+(i:Nat))
noncomputable def typeIs(v:Value)(m:MV):Option Bool:=match v with
 | .type t=>if t=="int"||t=="bool"||t=="str"||t=="tuple" then(match m with
   | .none=>some false
   | .bool _=>some (t=="bool"||t=="int")
   | .int _=>some (t=="int")
   | .str _=>some (t=="str")
   | .tup _=>some (t=="tuple")
   | .lst _=>some false
   |_=>none)else none
 | .ref c=>(match m with
  | .obj d _=>if c=d then some true else none
  |_=>none)
 |_=>none
noncomputable def Zpn(i:Int):Option Str:=if i.natAbs < 2 ^ 64 then some (Str.ofString (toString i))else none
noncomputable def reprOf:MV->Option Str
 | .none=>some "None"
 | .bool b=>some (if b then "True" else "False")
 | .int i=>Zpn i
 | .str s=>if(reprText s).length<=Zb then some (reprText s)else none
 |_=>none
noncomputable def strOf:MV->Option Str
 | .none=>some "None"
 | .int i=>Zpn i
 | .str s=>some s
 |_=>none
noncomputable def ZEa:List Int->Option Int
 | []=>none
 |a::r=>some (r.foldl min a)
noncomputable def ZNc:MV->Option Value
 | .con v=>some v
 |_=>none
noncomputable def Zng(m:MV):Option OV:=match m with
 | .lst vs=>Zgc vs.length
 | .tup vs=>Zgc vs.length
 | .str s=>if s.length<=Zb then Zgc s.length else none
 |_=>none
noncomputable def builtin(b:String)(args:List MV):Option OV:=
 if b="len" then Zhc args Zng
 else if b="isinstance" then ZTf args λa v=>(ZNc v).bind λv=>(typeIs v a).map λb=>.f (.bool b)
 else if b="sum" then Zhc args λa=>(Zcv a).bind λl=>(Jq l).bind λis=>if is.all λi=>decide (i.natAbs < 1099511627776)then Zgc is.sum else none
 else if b="min" then Zhc args λa=>(Zcv a).bind λl=>(Jq l).bind λis=>(ZEa is).bind Zgc
 else if b="repr" then Zhc args λa=>(reprOf a).map λs=>.f (.str s)
 else if b="abs" then Zhc args λa=>(Jr a).bind λi=>Zgc i.natAbs
 else none
noncomputable def Qo(t:String)(args:List MV):Option OV:=
 if t="list" then Zhc args λa=>(Zcv a).map .l
 else if t="int" then Zhc args λa=>(match a with
  | .bool b=>Zgc b.toInt
  |_=>none)
 else if t="str" then Zhc args λa=>(strOf a).map λs=>.f (.str s)
 else none
noncomputable def Zpp(b:Int):Option (List MV):=if -Zb<=b/\b<=Zb then some (Jj 0 b)else none
noncomputable def Zzt(a b:Int):Option (List MV):=if 0<=a/\a<=Zb/\-Zb<=b/\b<=Zb then some (Jj a b)else none
noncomputable def Xj(t:String)(args:List MV):Option (List MV):=
 if t="range" then(match args with
  |a::r=>(Jr a).bind λa=>(match r with
   | []=>Zpp a
   |r=>Zhc r λb=>(Jr b).bind (Zzt a))
  | []=>none)
 else if t="enumerate" then Zhc args λa=>(Zrv a).map (Xl 0)
 else if t="zip" then ZTf args λa b=>(Zcv a).bind λx=>(Zcv b).map (Zze x)
 else none
noncomputable def Ui(v:OV)(a:Str):Option OV:=match v with
 | .f m=>(match m with| .obj _ fs=>(fs.lookup a).map .f|_=>none)
 | .o _ fs=>(fs.lookup a).map OF.ov
 |_=>none
noncomputable def Zfr(l:List (MV×MV))(vs:List OV):Option OV:=match vs with
 |k::r=>(Zii k.frz).bind λk=>(match r with| []=>some (.f ((Zhx k l).getD .none))|d::r=>(match r with| []=>some (.f ((Zhx k l).getD d.frz))|_=>none))
 | []=>none
noncomputable abbrev rounds:Nat:=1000
end
section
noncomputable abbrev Zf:=Addr->Option Obj
noncomputable abbrev Ow:=Addr->Option (Nat×Option Str)
noncomputable abbrev Zja:Option Str:=none
noncomputable def Zf.Sub(Z Z':Zf):Prop:=∀a o,Z a=some o->Z' a=some o
noncomputable abbrev Zuq(vs:List Value)(n:Nat):Obj:={cls:=.type "tuple",data:=.seq vs.toArray n}
noncomputable abbrev Zaj(vs:List Value)(n:Nat):Obj:=listOf vs.toArray n
structure Px where
 params:Params
 ok:Nat->Str->Prop
noncomputable def Zcy(P:Px)(x:Str)(e:DictEntry):Prop:=(∃t,e.key=.str x t)/\e.hash=PyData.keyHash P.params x
section
variable(P:Px)(Z:Zf)
mutual
noncomputable def RepF:MV->Value->Prop
 | .none,v=>v=.none
 | .bool b,v=>v=.bool b
 | .int i,v=>∃t,v=.int i t
 | .str x,v=>∃t,v=.str x t
 | .tup l,v=>∃a vs n,v=.ref a/\Z a=some (Zuq vs n)/\RepFs l vs/\l.length<=Zb
 | .lst l,v=>∃a vs n,v=.ref a/\Z a=some (Zaj vs n)/\RepFs l vs/\l.length<=Zb
 | .obj c fs,v=>∃a d es n,v=.ref a/\Z a=some (instObj c d)/\Z d=some (dictOf es n)/\RepD c fs es
 | .dct l,v=>∃a es n,v=.ref a/\(a==sysModules)=false/\Z a=some (dictOf es n)/\RepK l es
 | .con c,v=>v=c/\handedIn c=true
noncomputable def RepFs:List MV->List Value->Prop
 | [],vs=>vs=[]
 |m::r,vs=>∃v ws,vs=v::ws/\RepF m v/\RepFs r ws
noncomputable def RepD(c:Nat):List (Str×MV)->List DictEntry->Prop
 | [],es=>es=[]
 |(x,m)::r,es=>∃e q,es=e::q/\Zcy P x e/\P.ok c x/\RepF m e.val/\RepD c r q
noncomputable def RepK:List (MV×MV)->List DictEntry->Prop
 | [],es=>es=[]
 |(k,m)::r,es=>∃e q x,es=e::q/\k=.str x/\Zcy P x e/\RepF m e.val/\RepK r q
end
end
section
variable{P:Px}{Z Z':Zf}
theorem RepF.mono_all(h:Z.Sub Z'):(∀m v,RepF P Z m v->RepF P Z' m v)/\(∀l vs,RepFs P Z l vs->RepFs P Z' l vs):=by
 have key:∀m,∀v,RepF P Z m v->RepF P Z' m v:=λm=>by
  refine MV.rec (motive_1:=λm=>∀v,RepF P Z m v->RepF P Z' m v) (motive_2:=λl=>∀vs,RepFs P Z l vs->RepFs P Z' l vs)
   (motive_3:=λl=>∀c es,RepD P Z c l es->RepD P Z' c l es) (motive_4:=λl=>∀es,RepK P Z l es->RepK P Z' l es)
   (motive_5:=λp=>∀v,RepF P Z p.2 v->RepF P Z' p.2 v) (motive_6:=λp=>∀v,RepF P Z p.2 v->RepF P Z' p.2 v)
   (λ_ x=>x) (λ_ _ x=>x) (λ_ _ x=>x) (λ_ _ x=>x) ?_ ?_ ?_ ?_ (λ_ _ x=>x) (λ_ x=>x) ?_ (λ_ _ x=>x) ?_ (λ_ x=>x) ?_ (λ_ _ h=>h) (λ_ _ _ h=>h) m
  .exactλl ih v=>.imp λa=>.imp λvs=>.imp λn=>.imp_right (.imp (h _ _) (.imp_left (ih _)))
  .exactλl ih v=>.imp λa=>.imp λvs=>.imp λn=>.imp_right (.imp (h _ _) (.imp_left (ih _)))
  .exactλc l ih v=>.imp λa=>.imp λd=>.imp λes=>.imp λn=>.imp_right (.imp (h _ _) (.imp (h _ _) (ih _ _)))
  .exactλl ih v=>.imp λa=>.imp λes=>.imp λn=>.imp_right (.imp_right (.imp (h _ _) (ih _)))
  .exactλm r i1 i2 vs=>.imp λv=>.imp λws=>.imp_right (.imp (i1 _) (i2 _))
  .exactλp r i1 i2 c es=>.imp λv=>.imp λws=>.imp_right (.imp_right (.imp_right (.imp (i1 _) (i2 _ _))))
  .exactλp r i1 i2 es=>.imp λv=>.imp λws=>.imp λx=>.imp_right (.imp_right (.imp_right (.imp (i1 _) (i2 _))))
 refine⟨key,λl=>?_⟩
 induction l with
 |nil=>exactλvs x=>x
 |cons m r ih=>exactλvs=>.imp λv=>.imp λws=>.imp_right (.imp (key m _) (ih _))
theorem RepF.mono(h:Z.Sub Z'){m:MV}{v:Value}(x:RepF P Z m v):RepF P Z' m v:=(RepF.mono_all h).1 m v x
theorem RepFs.mono(h:Z.Sub Z'){l:List MV}{v:List Value}(x:RepFs P Z l v):RepFs P Z' l v:=(RepF.mono_all h).2 l v x
theorem RepFs.cons_e{m:MV}{r:List MV}{vs:List Value}{G:List Value->Prop}(x:RepFs P Z (m::r) vs)(k:∀v ws,RepF P Z m v->RepFs P Z r ws->G (v::ws)):G vs:=by
 obtain⟨v,ws,rfl,a,b⟩:=x
 exact k v ws a b
theorem RepFs.nil_e{vs:List Value}{G:List Value->Prop}(x:RepFs P Z [] vs)(k:G []):G vs:=by
 cases(show vs=[]from x);exact k
theorem RepFs.cons{m:MV}{r:List MV}{v:Value}{ws:List Value}(a:RepF P Z m v)(b:RepFs P Z r ws):RepFs P Z (m::r) (v::ws):=⟨v,ws,rfl,a,b⟩
theorem RepFs.one{m:MV}{v:Value}(x:RepF P Z m v):RepFs P Z [m] [v]:=.cons x rfl
theorem RepFs.length{l:List MV}:∀{vs:List Value},RepFs P Z l vs->vs.length=l.length:=by
 induction l with
 |nil=>exactλx=>x.nil_e (G:=λvs=>vs.length=0) rfl
 |cons m r ih=>exactλx=>x.cons_e (G:=λvs=>vs.length=r.length+1) λv ws _ b=>congrArg (·+1) (ih b)
theorem RepFs.append{l k:List MV}{us:List Value}(y:RepFs P Z k us):∀{vs:List Value},RepFs P Z l vs->RepFs P Z (l++k) (vs++us):=by
 induction l with
 |nil=>exactλx=>x.nil_e (G:=λvs=>RepFs P Z k (vs++us)) y
 |cons m r ih=>exactλx=>x.cons_e (G:=λvs=>RepFs P Z (m::(r++k)) (vs++us)) λv ws a b=>.cons a (ih b)
theorem RepFs.get{l:List MV}{m:MV}:∀{vs:List Value} {i:Nat},RepFs P Z l vs->l[i]?=some m->∃v,vs[i]?=some v/\RepF P Z m v:=by
 induction l with
 |nil=>exactλ_ e=>ns e
 |cons a r ih=>exactλ{vs i} x=>x.cons_e (G:=λvs=>(a::r)[i]?=some m->∃v,vs[i]?=some v/\RepF P Z m v) λv ws q b e=>match i,e with
  |0,e=>⟨v,rfl,Option.some.inj e▸q⟩
  |i+1,e=>ih (vs:=ws) (i:=i) b e
theorem RepFs.take{l:List MV}:∀{vs:List Value} (i:Nat),RepFs P Z l vs->RepFs P Z (l.take i) (vs.take i):=by
 induction l with
 |nil=>exactλi x=>x.nil_e (G:=λvs=>RepFs P Z (List.take i []) (vs.take i)) (by rw[List.take_nil,List.take_nil];rfl)
 |cons a r ih=>exactλ{vs} i x=>x.cons_e (G:=λvs=>RepFs P Z ((a::r).take i) (vs.take i)) λv ws q b=>match i with
  |0=>rfl
  |i+1=>.cons q (ih i b)
theorem RepFs.drop{l:List MV}:∀{vs:List Value} (i:Nat),RepFs P Z l vs->RepFs P Z (l.drop i) (vs.drop i):=by
 induction l with
 |nil=>exactλi x=>x.nil_e (G:=λvs=>RepFs P Z (List.drop i []) (vs.drop i)) (by rw[List.drop_nil,List.drop_nil];rfl)
 |cons a r ih=>exactλ{vs} i x=>x.cons_e (G:=λvs=>RepFs P Z ((a::r).drop i) (vs.drop i)) λv ws q b=>match i with
  |0=>.cons q b
  |i+1=>ih i b
theorem RepFs.set{l:List MV}{m:MV}{u:Value}(y:RepF P Z m u):∀{vs:List Value} (i:Nat),RepFs P Z l vs->RepFs P Z (l.set i m) (vs.set i u):=by
 induction l with
 |nil=>exactλi x=>x.nil_e (G:=λvs=>RepFs P Z [] (vs.set i u)) rfl
 |cons a r ih=>exactλ{vs} i x=>x.cons_e (G:=λvs=>RepFs P Z ((a::r).set i m) (vs.set i u)) λv ws q b=>match i with
  |0=>.cons y b
  |i+1=>.cons q (ih i b)
theorem RepF.int_e{i:Int}{v:Value}{G:Value->Prop}(x:RepF P Z (.int i) v)(k:∀t,G (.int i t)):G v:=by
 obtain⟨t,rfl⟩:=x;exact k t
theorem RepF.str_e{i:Str}{v:Value}{G:Value->Prop}(x:RepF P Z (.str i) v)(k:∀t,G (.str i t)):G v:=by
 obtain⟨t,rfl⟩:=x;exact k t
theorem RepF.lst_e{l:List MV}{v:Value}{G:Value->Prop}(x:RepF P Z (.lst l) v)(k:∀a vs n,Z a=some (Zaj vs n)->RepFs P Z l vs->l.length<=Zb->G (.ref a)):G v:=by
 obtain⟨a,vs,n,rfl,z,r,h⟩:=x;exact k a vs n z r h
theorem RepF.tup_e{l:List MV}{v:Value}{G:Value->Prop}(x:RepF P Z (.tup l) v)(k:∀a vs n,Z a=some (Zuq vs n)->RepFs P Z l vs->l.length<=Zb->G (.ref a)):G v:=by
 obtain⟨a,vs,n,rfl,z,r,h⟩:=x;exact k a vs n z r h
theorem RepF.obj_e{c:Nat}{fs:List (Str×MV)}{v:Value}{G:Value->Prop}(x:RepF P Z (.obj c fs) v)(k:∀a d es n,Z a=some (instObj c d)->Z d=some (dictOf es n)->RepD P Z c fs es->G (.ref a)):G v:=by
 obtain⟨a,d,es,n,rfl,z,z2,h⟩:=x;exact k a d es n z z2 h
theorem RepF.dct_e{l:List (MV×MV)}{v:Value}{G:Value->Prop}(x:RepF P Z (.dct l) v)(k:∀a es n,(a==sysModules)=false->Z a=some (dictOf es n)->RepK P Z l es->G (.ref a)):G v:=by
 obtain⟨a,es,n,rfl,z,z2,h⟩:=x;exact k a es n z z2 h
theorem RepF.handed{m:MV}{v:Value}(x:RepF P Z m v):handedIn v=true:=by
 cases m with
 |none=>exact(show v=.none from x)▸rfl
 |bool b=>exact(show v=.bool b from x)▸rfl
 |int i=>exact x.int_e (G:=λv=>handedIn v=true) λ_=>rfl
 |str i=>exact x.str_e (G:=λv=>handedIn v=true) λ_=>rfl
 |tup l=>exact x.tup_e (G:=λv=>handedIn v=true) λ_ _ _ _ _ _=>rfl
 |lst l=>exact x.lst_e (G:=λv=>handedIn v=true) λ_ _ _ _ _ _=>rfl
 |obj l fs=>exact x.obj_e (G:=λv=>handedIn v=true) λ_ _ _ _ _ _ _=>rfl
 |dct l=>exact x.dct_e (G:=λv=>handedIn v=true) λ_ _ _ _ _ _=>rfl
 |con v=>exact x.1▸x.2
end
structure Wd where
 s:Shared
 Z:Zf
 W:Ow
 m:Str->Option Value
 cm:Str->Option Value
section
variable(P:Px)(w:Wd)(t:Nat)
noncomputable def RepL(x:Option Str)(l:List MV)(v:Value):Prop:=∃a vs n,v=.ref a/\w.W a=some (t,x)/\w.s.heap.get? a=some (Zaj vs n)/\RepFs P w.Z l vs/\l.length<=Zb
noncomputable def RepOF(x:Str)(o:OF)(v:Value):Prop:=match o with
 | .f m=>RepF P w.Z m v
 | .l l=>RepL P w t (some x) l v
noncomputable def RepOD(c:Nat):List (Str×OF)->List DictEntry->Prop
 | [],es=>es=[]
 |p::r,es=>∃e q,es=e::q/\Zcy P p.1 e/\P.ok c p.1/\RepOF P w t p.1 p.2 e.val/\(∀y∈r,y.1≠p.1)/\RepOD c r q
noncomputable def RepO(o:OV)(v:Value):Prop:=match o with
 | .f m=>RepF P w.Z m v
 | .l l=>RepL P w t Zja l v
 | .o c fs=>∃a d es n,v=.ref a/\w.W a=some (t,Zja)/\w.W d=some (t,Zja)/\w.s.heap.get? a=some (instObj c d)/\w.s.heap.get? d=some (dictOf es n)/\RepOD P w t c fs es
end
section
variable{P:Px}{w w':Wd}{t t':Nat}{v:Value}
theorem RepL.e{x:Option Str}{l:List MV}{G:Value->Prop}(r:RepL P w t x l v)(k:∀a vs n,w.W a=some (t,x)->w.s.heap.get? a=some (Zaj vs n)->RepFs P w.Z l vs->l.length<=Zb->G (.ref a)):G v:=by
 obtain⟨a,vs,n,rfl,z,g,r,h⟩:=r;exact k a vs n z g r h
theorem RepO.o_e{c:Nat}{fs:List (Str×OF)}{G:Value->Prop}(r:RepO P w t (.o c fs) v)(k:∀a d es n,w.W a=some (t,Zja)->w.W d=some (t,Zja)->w.s.heap.get? a=some (instObj c d)->w.s.heap.get? d=some (dictOf es n)->RepOD P w t c fs es->G (.ref a)):G v:=by
 obtain⟨a,d,es,n,rfl,z,y,g,h,r⟩:=r;exact k a d es n z y g h r
theorem RepOD.cons_e{c:Nat}{p:Str×OF}{r:List (Str×OF)}{es:List DictEntry}{G:List DictEntry->Prop}(x:RepOD P w t c (p::r) es)(k:∀e q,Zcy P p.1 e->P.ok c p.1->RepOF P w t p.1 p.2 e.val->(∀y∈r,y.1≠p.1)->RepOD P w t c r q->G (e::q)):G es:=by
 obtain⟨e,q,rfl,h1,h2,h3,h4,h5⟩:=x;exact k e q h1 h2 h3 h4 h5
theorem RepOD.cons{c:Nat}{p:Str×OF}{r:List (Str×OF)}{e:DictEntry}{q:List DictEntry}(h1:Zcy P p.1 e)(h2:P.ok c p.1)(h3:RepOF P w t p.1 p.2 e.val)(h4:∀y∈r,y.1≠p.1)(h5:RepOD P w t c r q):RepOD P w t c (p::r) (e::q):=⟨e,q,rfl,h1,h2,h3,h4,h5⟩
noncomputable abbrev Zun(w w':Wd)(t t':Nat):Prop:=∀b x,w.W b=some (t,x)->w'.W b=some (t',x)/\w'.s.heap.get? b=w.s.heap.get? b
noncomputable abbrev Zum(w w':Wd)(q q':Nat×Option Str):Prop:=∀b,w.W b=some q->w'.W b=some q'/\w'.s.heap.get? b=w.s.heap.get? b
theorem RepL.keep{x:Option Str}{l:List MV}(hz:w.Z.Sub w'.Z)(k:Zum w w' (t,x) (t',x))(r:RepL P w t x l v):RepL P w' t' x l v:=
 r.e λa vs n z g r h=>⟨a,vs,n,rfl,(k a z).1,(k a z).2.trans g,r.mono hz,h⟩
theorem RepOF.keep{x:Str}{o:OF}(hz:w.Z.Sub w'.Z)(k:Zum w w' (t,some x) (t',some x))(r:RepOF P w t x o v):RepOF P w' t' x o v:=by
 cases o with
 |f m=>exact RepF.mono hz r
 |l l=>exact RepL.keep hz k r
theorem RepOD.keep{c:Nat}(hz:w.Z.Sub w'.Z)(k:Zun w w' t t'){fs:List (Str×OF)}:∀{es:List DictEntry},RepOD P w t c fs es->RepOD P w' t' c fs es:=by
 induction fs with
 |nil=>exactλx=>x
 |cons p r ih=>exactλx=>x.cons_e λe q h1 h2 h3 h4 h5=>.cons h1 h2 (h3.keep hz λb=>k b _) h4 (ih h5)
theorem RepO.keep{o:OV}(hz:w.Z.Sub w'.Z)(k:Zun w w' t t')(r:RepO P w t o v):RepO P w' t' o v:=by
 cases o with
 |f m=>exact RepF.mono hz r
 |l l=>exact RepL.keep hz (λb=>k b _) r
 |o c fs=>exact r.o_e λa d es n z y g h r=>⟨a,d,es,n,rfl,(k _ _ z).1,(k _ _ y).1,(k _ _ z).2.trans g,(k _ _ y).2.trans h,r.keep hz k⟩
theorem RepL.frz{x:Option Str}{l:List MV}{Z':Zf}(hz:w.Z.Sub Z')(k:∀b x,w.W b=some (t,x)->Z' b=w.s.heap.get? b)(r:RepL P w t x l v):RepF P Z' (.lst l) v:=
 r.e λa vs n z g r h=>⟨a,vs,n,rfl,(k _ _ z).trans g,r.mono hz,h⟩
theorem RepOF.frz{x:Str}{o:OF}{Z':Zf}(hz:w.Z.Sub Z')(k:∀b x,w.W b=some (t,x)->Z' b=w.s.heap.get? b)(r:RepOF P w t x o v):RepF P Z' o.frz v:=by
 cases o with
 |f m=>exact RepF.mono hz r
 |l l=>exact RepL.frz hz k r
theorem RepOD.frz{c:Nat}{Z':Zf}(hz:w.Z.Sub Z')(k:∀b x,w.W b=some (t,x)->Z' b=w.s.heap.get? b){fs:List (Str×OF)}:∀{es:List DictEntry},RepOD P w t c fs es->RepD P Z' c (fs.map λp=>(p.1,p.2.frz)) es:=by
 induction fs with
 |nil=>exactλx=>x
 |cons p r ih=>exactλx=>x.cons_e (G:=RepD P Z' c ((p.1,p.2.frz)::r.map _)) λe q h1 h2 h3 h4 h5=>⟨e,q,rfl,h1,h2,h3.frz hz k,ih h5⟩
theorem RepO.frz{o:OV}{Z':Zf}(hz:w.Z.Sub Z')(k:∀b x,w.W b=some (t,x)->Z' b=w.s.heap.get? b)(r:RepO P w t o v):RepF P Z' o.frz v:=by
 cases o with
 |f m=>exact RepF.mono hz r
 |l l=>exact RepL.frz hz k r
 |o c fs=>exact r.o_e (G:=RepF P Z' (OV.frz (.o c fs))) λa d es n z y g h r=>⟨a,d,es,n,rfl,(k _ _ z).trans g,(k _ _ y).trans h,r.frz hz k⟩
end
end
noncomputable abbrev PW:Program:=PySem.Challenge.pw_tn0025_01
noncomputable def Zem(stp:SharedT->Thread->Option (SharedT×Thread))(ok:Thread->Bool)(n:Nat):SharedT->Thread->Option SharedT:=
 @Nat.rec (λ_=>SharedT->Thread->Option SharedT) (λ_ _=>none) (λ_ ih s t=>
  match through t with|true=>some s|false=>match ok t with|false=>none|true=>match stp s t with|some (s',t')=>ih s' t'|none=>none) n
theorem Zgj{p:Program}{w:World}{n₀:Nat}{ann:Option Value}{n:Nat}:∀{s s':SharedT} {t:Thread},Zem (stepT (denote treeTable) p w) (stepOk n₀ ann) n s t=some s'->topRun treeTable p w n₀ ann n s.abs t=some s'.abs:=by
 induction n with
 |zero=>exactλh=>by cases h
 |succ n ih=>
  intro s s' t h
  have h':(match through t with
  |true=>some s
  |false=>match stepOk n₀ ann t with
   |false=>none
   |true=>match stepT (denote treeTable) p w s t with
    |some (s',t')=>Zem (stepT (denote treeTable) p w) (stepOk n₀ ann) n s' t'
    |none=>none)=some s':=h
  unfold topRun
  cases ht:through t with
  |true=>rw[ht]at h';cases h';rfl
  |false=>
   rw[ht]at h'
   cases hk:stepOk n₀ ann t with
   |false=>rw[hk]at h';cases h'
   |true=>
    rw[hk]at h'
    cases hs:stepT (denote treeTable) p w s t with
    |none=>rw[hs]at h';cases h'
    |some r=>obtain⟨s₂,t₂⟩:=r;rw[hs]at h';rw[stepT_spec hs];exact ih h'
noncomputable def T0(P:Params):BT:=((((((((((BT.nil.ins 0 (boot_o_0 P)).ins 1 (boot_o_1 P)).ins 2 (boot_o_2 P)).ins 3 (boot_o_3 P)).ins 4 (boot_o_4 P)).ins 5 (boot_o_5 P)).ins 6 (boot_o_6 P)).ins 7 (boot_o_7 P)).ins 8 (boot_o_8 P)).ins 9 (boot_o_9 P)).ins 10 (boot_o_10 P)
theorem ZGt(P:Params):boot_heap P=absHeap (T0 P) 11 {}:=by with_unfolding_all rfl
theorem Zs{α:Type}{l r:α}(h:(λ_:Option (Option α)=>some l) ((#[some r]:Array (Option α))[0]?)=some r):l=r:=Option.some.inj h
section
noncomputable def ZQo:List Stmt->Nat->Stmt
 | [],_=>.Pass default
 |s::_,0=>s
 |_::r,n+1=>ZQo r n
noncomputable def ZSv:Stmt->List Stmt
 | .ClassDef _ _ _ b _ _ _ _ _ _ _=>b
 |_=>[]
noncomputable def Zhy:Stmt->Arguments
 | .FunctionDef _ a _ _ _ _ _ _ _ _=>a
 |_=>default
noncomputable def Zju:Stmt->List Stmt
 | .FunctionDef _ _ b _ _ _ _ _ _ _=>b
 |_=>[]
noncomputable def Jg:Stmt->Scope
 | .FunctionDef _ _ _ _ _ _ s _ _ _=>s
 |_=>default
noncomputable def tD(i:Nat):Stmt:=ZQo PW.main.body i
noncomputable def mD(i j:Nat):Stmt:=ZQo (ZSv (tD i)) j
noncomputable def Zoa:Stmt->Str
 | .FunctionDef n _ _ _ _ _ _ _ _ _=>n
 |_=>default
noncomputable def ZMx:Stmt->Nat
 | .FunctionDef _ _ _ _ _ _ _ _ _ p=>p.line
 |_=>0
namespace KP
noncomputable abbrev o(s:String):Str:=Str.ofString s
noncomputable def fz{α:Type}(k:Nat->α):Nat->α
 |0=>k 0
 |n+1=>k (n+1)
noncomputable abbrev r(a:Nat):Value:=fz .ref a
noncomputable abbrev N:Value:=.none
noncomputable abbrev g(x:String)(a:Nat):Str×MV:=(o x,.con (.ref a))
end KP
open KP in
noncomputable def Xw:List (Str×MV):=[
 g "BadRows" 52,
 (o "CODE_KINDS",.tup [.str "method",.str "block",.str "class",.str "program"]),
 (o "CATCH_SORTS",.tup [.str "rescue",.str "ensure"]),
 (o "SEND_KINDS",.tup [.str "call",.str "self",.str "var"]),
 (o "OUT_SORTS",.tup [.str "break",.str "return"]),
 (o "JUMPS",.tup [.str "jump",.str "jumpif",.str "jumpunless",.str "jumpnil"]),
 (o "ENDS",.tup [.str "jump",.str "leave",.str "out",.str "again",.str "nomatch",.str "fail"]),
 (o "DEFINED_ON_TOP",.tup [.str "method_of",.str "const_of"]),
 (o "DEFINED_SORTS",.tup [.str "ivar",.str "gvar",.str "const",.str "const_of",.str "super",.str "yield",.str "method",.str "method_of"]),
 g "Row" 87,
 g "Catch" 115,
 g "Code" 150,
 (o "EFFECTS",.dct [(.str "push",.tup [.int 0,.int 1]),(.str "text",.tup [.int 0,.int 1]),(.str "pop",.tup [.int 1,.int 0]),(.str "dup",.tup [.int 1,.int 2]),(.str "dup2",.tup [.int 2,.int 4]),(.str "swap",.tup [.int 2,.int 2]),(.str "tuck",.con (.ref 175)),(.str "self",.tup [.int 0,.int 1]),(.str "getl",.tup [.int 0,.int 1]),(.str "setl",.tup [.int 1,.int 0]),(.str "geti",.tup [.int 0,.int 1]),(.str "seti",.tup [.int 1,.int 0]),(.str "getg",.tup [.int 0,.int 1]),(.str "setg",.tup [.int 1,.int 0]),(.str "getc",.tup [.int 0,.int 1]),(.str "getcin",.tup [.int 1,.int 1]),(.str "setc",.tup [.int 1,.int 0]),(.str "list",.con (.ref 182)),(.str "append",.tup [.int 2,.int 1]),(.str "joinlists",.tup [.int 2,.int 1]),(.str "spread",.tup [.int 1,.int 1]),(.str "table",.con (.ref 189)),(.str "range",.tup [.int 2,.int 1]),(.str "totext",.tup [.int 1,.int 1]),(.str "texts",.con (.ref 182)),(.str "send",.con (.ref 196)),(.str "super",.con (.ref 203)),(.str "zsuper",.con (.ref 210)),(.str "yield",.con (.ref 217)),(.str "jump",.tup [.int 0,.int 0]),(.str "jumpif",.tup [.int 1,.int 0]),(.str "jumpunless",.tup [.int 1,.int 0]),(.str "jumpnil",.tup [.int 1,.int 1]),(.str "lambda",.tup [.int 0,.int 1]),(.str "def",.tup [.int 0,.int 1]),(.str "sdef",.tup [.int 1,.int 1]),(.str "class",.con (.ref 224)),(.str "module",.tup [.int 0,.int 1]),(.str "sclass",.tup [.int 1,.int 1]),(.str "alias",.tup [.int 0,.int 1]),(.str "undef",.tup [.int 0,.int 1]),(.str "leave",.tup [.int 1,.int 0]),(.str "out",.tup [.int 1,.int 0]),(.str "again",.tup [.int 1,.int 0]),(.str "caught",.tup [.int 1,.int 1]),(.str "setcaught",.tup [.int 1,.int 0]),(.str "defined",.con (.ref 231)),(.str "spreadto",.con (.ref 238)),(.str "respond",.tup [.int 1,.int 1]),(.str "islist",.tup [.int 1,.int 1]),(.str "istable",.tup [.int 1,.int 1]),(.str "listfits",.tup [.int 1,.int 1]),(.str "listat",.tup [.int 1,.int 1]),(.str "listpart",.tup [.int 1,.int 1]),(.str "tablehas",.tup [.int 1,.int 1]),(.str "tableat",.tup [.int 1,.int 1]),(.str "tablerest",.tup [.int 1,.int 1]),(.str "tableonly",.tup [.int 1,.int 1]),(.str "nomatch",.tup [.int 1,.int 0]),(.str "blockgiven",.tup [.int 0,.int 1]),(.str "fail",.tup [.int 0,.int 0]),(.str "builtin",.tup [.int 0,.int 1]),(.str "needclass",.tup [.int 1,.int 1]),(.str "toblock",.tup [.int 1,.int 1]),(.str "passing",.tup [.int 1,.int 0])]),
 g "effect_of" 303,
 (o "OPERANDS",.dct [(.str "push",.str "v"),(.str "text",.str "t"),(.str "tuck",.str "c"),(.str "getl",.str "cc"),(.str "setl",.str "cc"),(.str "geti",.str "n"),(.str "seti",.str "n"),(.str "getg",.str "n"),(.str "setg",.str "n"),(.str "getc",.str "n"),(.str "getcin",.str "n"),(.str "setc",.str "n"),(.str "list",.str "c"),(.str "table",.str "c"),(.str "range",.str "f"),(.str "texts",.str "c"),(.str "send",.str "nas"),(.str "super",.str "ab"),(.str "zsuper",.str "b"),(.str "yield",.str "a"),(.str "jump",.str "p"),(.str "jumpif",.str "p"),(.str "jumpunless",.str "p"),(.str "jumpnil",.str "p"),(.str "lambda",.str "c"),(.str "def",.str "nc"),(.str "sdef",.str "nc"),(.str "class",.str "ncf"),(.str "module",.str "nc"),(.str "sclass",.str "c"),(.str "alias",.str "nn"),(.str "undef",.str "n"),(.str "out",.str "s"),(.str "defined",.str "sv"),(.str "spreadto",.str "crc"),(.str "respond",.str "n"),(.str "listfits",.str "cf"),(.str "listat",.str "i"),(.str "listpart",.str "cc"),(.str "tablehas",.str "v"),(.str "tableat",.str "v"),(.str "tablerest",.str "k"),(.str "tableonly",.str "k"),(.str "fail",.str "nt"),(.str "builtin",.str "n")]),
 g "is_whole" 313,
 g "is_operand" 334,
 g "child_of" 341,
 g "RowCheck" 410,
 g "check_rows" 421,
 (o "MOST_ROUNDS",.int 24),
 (o "PLAIN",.tup [.str "push",.str "self",.str "getl",.str "geti",.str "getg",.str "dup",.str "blockgiven"]),
 (o "STORES",.tup [.str "setl",.str "seti",.str "setg",.str "setc"]),
 (o "BRANCHES",.tup [.str "jumpif",.str "jumpunless"]),
 g "is_op" 431,
 g "truth" 438,
 g "marks_of" 445,
 g "pressed" 450,
 g "end_of_jumps" 457,
 g "threaded" 464,
 g "reached" 471,
 g "without_dead" 476,
 g "without_pushes" 483,
 g "without_copies" 490,
 g "is_taken" 497,
 g "with_known_branches" 504,
 g "with_turned_branches" 511,
 g "without_short_jumps" 518,
 g "without_swaps" 525,
 (o "PASSES",.lst [.tup [.str "threaded",.con (.ref 464)],.tup [.str "known branches",.con (.ref 504)],.tup [.str "turned branches",.con (.ref 511)],.tup [.str "short jumps",.con (.ref 518)],.tup [.str "dead rows",.con (.ref 476)],.tup [.str "pushes",.con (.ref 483)],.tup [.str "copies",.con (.ref 490)],.tup [.str "swaps",.con (.ref 525)]]),
 g "shape" 539,
 g "tidied_alone" 546,
 g "tidy" 551,
 g "pass_named" 558,
 g "passed_by" 563,
 g "_law_box" 570,
 g "_law_take" 577,
 g "_law_pick" 584,
 g "_law_known" 591,
 g "_law_put" 598,
 g "_law_away" 605,
 g "_law_branch" 612,
 g "_law_one" 619,
 g "_law_piece" 626,
 g "_law_change" 633,
 g "_law_laid" 640,
 g "_law_first" 645,
 g "_law_second" 652,
 g "_law_goal" 657,
 g "_law_catches" 662,
 g "_law_scene" 667,
 g "_law_code" 674,
 g "_law_moved" 679,
 g "_law_joined" 684,
 g "_law_told" 689,
 g "_law_ways" 694,
 g "_law_end" 701,
 g "_law_due" 708,
 g "_law_tidied" 713,
 g "_law_said" 720,
 g "_law_refused_right" 725,
 g "_law_alone_right" 730,
 g "law" 735,
 (o "len",.con (.builtin "len")),
 (o "abs",.con (.builtin "abs")),
 (o "isinstance",.con (.builtin "isinstance")),
 (o "sum",.con (.builtin "sum")),
 (o "min",.con (.builtin "min")),
 (o "repr",.con (.builtin "repr")),
 (o "int",.con (.type "int")),
 (o "str",.con (.type "str")),
 (o "bool",.con (.type "bool")),
 (o "tuple",.con (.type "tuple")),
 (o "list",.con (.type "list")),
 (o "range",.con (.type "range")),
 (o "enumerate",.con (.type "enumerate")),
 (o "zip",.con (.type "zip")),
 (o "ValueError",.con (.type "ValueError"))]
namespace KP
noncomputable def st(x:Str)(t:Tok):Value:=fz (Value.str x) t
noncomputable def s(x:String)(t:Tok):Value:=st (o x) t
noncomputable def i(n t:Nat):Value:=fz (λn=>fz (Value.int (Int.ofNat n)) t) n
noncomputable def e(h:Str->Int)(x:String)(t:Tok)(v:Value):DictEntry:=⟨h (o x),s x t,v⟩
noncomputable def de(l:List DictEntry)(n:Nat):Obj:=⟨.type "dict",none,.dict l.toArray n,#[]⟩
noncomputable def tp(l:List Value):Obj:=⟨.type "tuple",none,.seq l.toArray 0,#[]⟩
noncomputable def mS(t:Tok):MV->Value
 | .str x=>st x t
 | .int n=>fz (Value.int n) t
 |_=>N
noncomputable def ms(t:Tok):MV->List Value
 | .tup l=>l.zipIdx.map λp=>mS (t+p.2) p.1
 |_=>[]
noncomputable def gd(j:Nat):MV:=(Xw.getD j (o "",.none)).2
noncomputable def gl(j:Nat):List (MV×MV):=match gd j with
 | .dct l=>l
 |_=>[]
noncomputable def ts(t:Tok)(l:List String):Obj:=tp (l.zipIdx.map λp=>s p.1 (t+p.2))
noncomputable def eM(h:Str->Int)(t:Tok)(k:MV)(v:Value):DictEntry:=match k with
 | .str x=>⟨h x,st x t,v⟩
 |_=>default
noncomputable def A(n:Nat):Nat:=n / 100000000
noncomputable def T(n:Nat):Nat:=n / 10000 % 10000
noncomputable def U(n:Nat):Nat:=T n+n / 100 % 100
noncomputable def fe(h:Str->Int)(st:Nat->Stmt)(n:Nat):DictEntry:=⟨h (Zoa (st (n % 100))),KP.st (Zoa (st (n % 100))) (U n+2),r (A n)⟩
noncomputable def fo(m d:Value)(q:Str->Str)(st:Nat->Stmt)(n:Nat):Frag:=
 let x:=st (n % 100)
 let a:=A n
 [(a - 1,⟨.type "code",none,.fields ([KP.st (Zoa x) (T n),KP.st (q (Zoa x)) (T n+1),s "/claim/cut.py" (T n+2),i (ZMx x) 0,i (Zhy x).args.length 0,i 0 0,i 0 0,i 3 0]++(bif n / 100 % 100==3 then[r (a - 4),.bool true,i 181 0,r (a - 3),N,N,N,r (a - 2)]else[r (a - 6),.bool true,i 181 0,r (a - 5),N,r (a - 4),r (a - 3),r (a - 2)])++[i (U n) 0,i (ZMx x) 0,s "/claim/cut.py" (U n+1)]).toArray,#[]⟩),
  (a,⟨.type "function",none,.func (fnOf (Zoa x) (q (Zoa x)) (Zhy x) (Zju x) (Jg x) d N N m none (r (a - 1)) N),#[]⟩)]
noncomputable def gr:Value:=s "gemrows.rows" 240
noncomputable def ck(h:Str->Int)(x:String)(c m l t:Nat)(as:List String)(st:Nat->Stmt)(f0:Value)(fs:List Nat):Frag:=
 [(c - 2,ts (t - as.length) as),(c - 1,de ([e h "__module__" m gr,e h "__firstlineno__" (m+4) (i l (m+3))]++fs.map (fe h st)++[e h "__static_attributes__" t (r (c - 2)),e h "__dict__" (t+2) (r (c+1)),e h "__weakref__" (t+4) (r (c+2)),e h "__doc__" (t+5) N]) 4),
  (c,⟨.type "type",none,.cls {name:=o x,bases:=[.type "object"],mro:=[r c,.type "object"],ns:=c - 1,qualname:=o x,hasDict:=true,slotNames:=[],subclasses:=[],abstract:=false,collection:=none,hasDel:=false},#[none,none,some (s x (m - 7)),some (s x (m+1)),some (.builtin "object.__new__"),some (.bool true)]⟩)]++
 fs.zipIdx.flatMap λp=>fo gr (bif p.2==0 then f0 else N) (λy=>o x++o "."++y) st p.1
noncomputable def f0:List Nat:=[2101870400]
noncomputable def f1:List Nat:=[16104360416,16804430417,17504500418,18204570419,18904640420,19604710421,20304780422,21004850423,21704920424,22404990425,23105060426,23805130427]
noncomputable def f2:List Nat:=[30307590529]
noncomputable def f3:List Nat:=[31309030431,32009100432,32709170533,33409250634,34109340535]
noncomputable def f4:List Nat:=[42110510337]
noncomputable def f5:List Nat:=[43110770543,43810850444,44510920845,45011030346,45711090747,46411190748,47111290949,47611410350,48311470751,49011570752,49711670553,50411751254,51111901055,51812030756,52512130757]
noncomputable def f6:List Nat:=[53912320359,54612380860,55112490361,55812550662,56312640363]
noncomputable def f7:List Nat:=[57012720765,57712820766,58412920567,59113000468,59813070669,60513160570,61213240571,61913320672,62613411073,63313540474,64013610875,64513720376,65213781277,65713930378,66213990379,66714050380,67414110681,67914200382,68414260383,68914320384,69414380385,70114440686,70814531587,71314710388,72014770489,72514840390,73014900391,73514960392]
noncomputable def ef:List Nat:=[520240,524241,528242,532243,536244,540245,544175,546246,550247,554248,558249,562250,566251,570252,574253,578254,582255,586182,588257,592258,596259,600189,602260,606261,610182,612196,614203,616210,618217,620262,624263,628264,632265,636266,640268,644269,648224,650270,654271,658272,662273,666274,670275,674276,678277,682278,686231,688238,690279,694280,698281,702283,705284,708285,711286,714287,717288,720289,723290,726291,729292,732293,735294,738295,741296]
noncomputable def m3(h:Str->Int):List DictEntry:=
 [e h "__name__" 165 (s "law_tn0025_01" 1270),e h "__doc__" 166 N,e h "__package__" 167 N,e h "__loader__" 168 (.builtin "__main__.__loader__#opaque"),e h "__spec__" 169 N,e h "__annotations__" 170 (r 6),e h "__builtins__" 171 (r 4),e h "__file__" 173 (s "/claim/cut.py" 172),e h "__cached__" 174 N]++f0.map (fe h tD)++
 [e h "GemError" 223 (r 39),e h "BadRows" 239 (r 52),e h "CODE_KINDS" 246 (r 55),e h "CATCH_SORTS" 249 (r 56),e h "SEND_KINDS" 253 (r 57),e h "OUT_SORTS" 256 (r 58),e h "JUMPS" 261 (r 59),e h "ENDS" 268 (r 60),e h "DEFINED_ON_TOP" 271 (r 61),e h "DEFINED_SORTS" 280 (r 62),e h "Row" 326 (r 87),e h "Catch" 371 (r 115),e h "Code" 435 (r 150)]++f1.map (fe h tD)++
 [e h "EFFECTS" 758 (r 239)]++f2.map (fe h tD)++[e h "OPERANDS" 902 (r 304)]++f3.map (fe h tD)++[e h "RowCheck" 1050 (r 410)]++f4.map (fe h tD)++
 [e h "MOST_ROUNDS" 1060 (i 24 1059),e h "PLAIN" 1068 (r 422),e h "STORES" 1073 (r 423),e h "BRANCHES" 1076 (r 424)]++f5.map (fe h tD)++[e h "PASSES" 1231 (r 534)]++(f6++f7).map (fe h tD)
noncomputable def d239(h:Str->Int):List DictEntry:=(gl 12).zipWith (λp n=>eM h (n / 1000) p.1 (r (n % 1000))) ef
noncomputable def d304(h:Str->Int):List DictEntry:=(gl 14).zipIdx.map λp=>
 let t:=bif Nat.ble p.2 33 then 767+3*p.2 else 801+2*p.2
 eM h t p.1.1 (mS (t+1) p.1.2)
noncomputable def ex(x:String)(c m:Nat)(b mro sub:List Value)(k:Nat):Obj:=⟨.type "type",none,.cls {name:=o x,bases:=b,mro:=mro,ns:=c - 1,qualname:=o x,hasDict:=true,slotNames:=[],subclasses:=sub,abstract:=false,collection:=none,hasDel:=false},#[some (r k),none,some (s x (m - 7)),some (s x (m+1)),some (.builtin "ValueError.__new__"),some (.bool true)]⟩
end KP
open KP in
noncomputable def Kh(h:Str->Int):Frag:=[
 (2,{de [] 0 with cls:=N}),
 (3,de (m3 h) 98),
 (29,ts 208 [""]),
 (37,ts 217 ["reason"]),
 (38,de [e h "__module__" 203 (s "gemrows.errors" 194),e h "__firstlineno__" 207 (i 5 206),e h "__init__" 216 (r 36),e h "__static_attributes__" 218 (r 37),e h "__weakref__" 220 (r 40),e h "__doc__" 221 N] 3),
 (39,ex "GemError" 39 203 [.type "ValueError"] [r 39,.type "ValueError",.type "Exception",.type "BaseException",.type "object"] [r 52] 22),
 (50,tp []),
 (51,de [e h "__module__" 231 (s "gemrows.errors" 194),e h "__firstlineno__" 235 (i 10 234),e h "__static_attributes__" 236 (r 50),e h "__doc__" 237 N] 2),
 (52,ex "BadRows" 52 231 [r 39] [r 52,r 39,.type "ValueError",.type "Exception",.type "BaseException",.type "object"] [] 43),
 (70,tp [N,N,N,i 0 293]),
 (415,tp []),
 (416,tp [r 415]),
 (239,de (d239 h) 65),
 (304,de (d304 h) 45),
 (534,⟨.type "list",none,.seq ((List.range 8).map λi=>r (526+i)).toArray 0,#[]⟩)]++
 [(55,242,1),(56,247,2),(57,250,3),(58,254,4),(59,257,5),(60,262,6),(61,269,7),(62,272,8),(422,1061,21),(423,1069,22),(424,1074,23)].map (λp=>(p.1,tp (ms p.2.1 (gd p.2.2))))++
 ((gl 12).zip ef).flatMap (λp=>match p.1.2 with
  | .tup l=>[(p.2 % 1000,tp (ms (p.2 / 1000+1) (.tup l)))]
  |_=>[])++
 ([("threaded",464),("known branches",504),("turned branches",511),("short jumps",518),("dead rows",476),("pushes",483),("copies",490),("swaps",525)].zipIdx.map λp=>(526+p.2,tp [s p.1.1 (1223+p.2),r p.1.2]))++
 f0.flatMap (fo (s "__main__" 164) N id tD)++fo (s "gemrows.errors" 194) (r 29) (λy=>o "GemError."++y) (mD 2) 3602090500++
 ck h "Row" 87 288 21 319 ["a","b","c","line","op"] (mD 13) (r 70) [7702940900,8403060501]++
 ck h "Catch" 115 334 32 364 ["depth","first","last","sort","target"] (mD 14) N [10503390900,11203510501]++
 ck h "Code" 150 379 43 428 ["catches","children","kind","name","number","params","rows","slots","starts"] (mD 15) N [13303841200,14003990601,14704080802]++
 ck h "RowCheck" 410 949 137 1043 ["code","depths","seen","waiting"] (mD 36) N [35509540600,36209630601,36909720802,37409830303,38109890604,38809980905,39510101006,40010230307,40710290708]++
 (f1++(f2++f3)).flatMap (fo gr N id tD)++f4.flatMap (fo gr (r 416) id tD)++(f5++f6).flatMap (fo (s "gemrows.passes" 1057) N id tD)++f7.flatMap (fo (s "law_tn0025_01" 1270) N id tD)
@[irreducible] noncomputable def K(P:Params):Frag:=Kh (PyData.keyHash P)
end
section
set_option maxHeartbeats 0
noncomputable abbrev ZXg:=PySem.W.Fast.tw10156331382660048174 (PySem.W.Fast.tw11892475500146522536 PySem.W.Fast.tw14364793385576792824)
noncomputable abbrev st0(w:World)(os:OsState):SharedT:=⟨T0 w.params,11,{},#[],boot_drawn,boot_toks,os⟩
noncomputable def Zin:Program:={PW with main:={PW.main with body:=[tD 92]}}
noncomputable def Zhh:List Str:=["_wall","GemError","given","passed","tuck_effect","list_effect","table_effect","send_effect","super_effect","zsuper_effect","yield_effect","class_effect","defined_effect","spreadto_effect","is_block","is_sort"].map Str.ofString++(Xw.take 72).map (·.1)
noncomputable def Zzc:List Nat:=(Kh λ_=>0).map (·.1)
noncomputable abbrev lkA(v:World)(s:Shared):=((staticsOk (importedModules PW.main.body) (boot_heap v.params) s.heap&&namesBound PW s.heap&&gensDone s&&laidKept (boot_heap v.params) s.heap),openSeen Zin Zhh (importedModules PW.main.body) (λ_=>true) true s)
noncomputable abbrev gdA:=(true,openGood Zin Zhh)
noncomputable abbrev lkB(s:Shared):=Zzc.map s.heap.get?
noncomputable abbrev gdB(v:World):=(K v.params).map λp=>some p.2
noncomputable def ZTt(n:Nat)(v:World)(os:OsState):=Zem (ZXg PW v) (PySem.W.Fast.tw6613529449190102663 11 (some (.ref 6))) n (st0 v os) (topStub PW)
noncomputable abbrev ZHe{α:Type}(b:Bool)(w:World)(os:OsState)(f:World->Shared->α)(g:World->α):Prop:=(ZTt 7000 (w.withFollow "special-get-raises" b) os).map (λs=>f (w.withFollow "special-get-raises" b) s.abs)=some (g (w.withFollow "special-get-raises" b))
theorem ZJk(w:World)(os:OsState):ZHe false w os lkA (λ_=>gdA):=by
 refine Zs ?_
 k_slotget
theorem ZJj(w:World)(os:OsState):ZHe false w os (λ_=>lkB) gdB:=by
 refine Zs ?_
 k_slotget
theorem ZJh(w:World)(os:OsState):ZHe true w os lkA (λ_=>gdA):=by
 refine Zs ?_
 k_slotget
theorem ZJg(w:World)(os:OsState):ZHe true w os (λ_=>lkB) gdB:=by
 refine Zs ?_
 k_slotget
end
section
set_option maxHeartbeats 0
theorem ZRn{α:Type}{l r:α}(h:(λ_:Option (Option α)=>some l) ((#[some r]:Array (Option α))[0]?)=some r):l=r:=Option.some.inj h
theorem Zwp:PySem.Challenge.rw_tn0025_01.wellSaid=true:=by
 rw[PySem.W.Fast.te9446332074065402090]
 refine ZRn ?_
 k_slotget
theorem holds_of(h:PySem.Challenge.rw_tn0025_01.row.wellSaid=true->PySem.Challenge.rw_tn0025_01.row.Holds):PySem.Challenge.rw_tn0025_01.Holds:=holds_law Zwp h
end
section
set_option maxHeartbeats 0
theorem Zzn{α:Type}{w:World}{os:OsState}{f:World->Shared->α}{g:World->α}(F:ZHe false w os f g)(T:ZHe true w os f g):(ZTt 7000 w os).map (λs=>f w s.abs)=some (g w):=by
 have e:=World.withFollow_self w "special-get-raises"
 unfold ZHe at F T
 cases hb:w.params.followText "special-get-raises" with
 |false=>rw[hb]at e;rw[e]at F;exact F
 |true=>rw[hb]at e;rw[e]at T;exact T
theorem ZJi(w:World)(os:OsState):∃s:SharedT,Zem (stepT (denote treeTable) PW w) (stepOk 11 (some (.ref 6))) 7000 (st0 w os) (topStub PW)=some s/\lkA w s.abs=gdA/\lkB s.abs=gdB w:=by
 obtain⟨s,hs,ha⟩:=Option.map_eq_some_iff.mp (Zzn (ZJk w os) (ZJh w os))
 have hb:=Zzn (ZJj w os) (ZJg w os)
 rw[hs]at hb
 refine⟨s,?_,ha,Option.some.inj hb⟩
 rw[PySem.W.Fast.te10156331382660048174,PySem.W.Fast.te11892475500146522536,PySem.W.Fast.te14364793385576792824,PySem.W.Fast.te6613529449190102663]
 exact hs
theorem ZGs(P:Params):((boot_heap P).isNs mainGlobals&&((#[]:Array GenState).size==0),(boot_heap P).objs.size,(boot_heap P).nsMap mainGlobals "__annotations__")=(true,11,some (.ref 6)):=by
 refine Zs ?_
 k_slotget
theorem ZDk:opening PW=plainProg PW.main.scope.names:=by
 refine Zs ?_
 k_slotget
theorem Zxs(s:Shared):fenceModules? PW s=some s:=by
 refine Zs ?_
 k_slotget
theorem Zwo:LeftO PW Zin Zhh (λ_=>true) (λs=>Zzc.map s.heap.get?) (λw=>(K w.params).map λp=>some p.2) 20000:=λw=>by
 obtain⟨⟨h,gs,d,k,os⟩,e,e'⟩:=Option.map_eq_some_iff.mp (boot_open ZDk (N:=20000) (by rfl) Zxs w)
 obtain⟨rfl,rfl,rfl,rfl⟩:h=boot_heap w.params/\gs=Array.mk []/\d=boot_drawn/\k=boot_toks:=by simpa using e'
 obtain⟨s,hs,hl,l3⟩:=ZJi w os
 have r:=Zgj hs
 obtain⟨z1,z2,z3⟩:_/\_/\_:=by simpa only[Prod.mk.injEq] using ZGs w.params
 obtain⟨l1,l2⟩:_/\_:=Prod.mk.inj hl
 have r':=topRun_mono 13000 _ _ _ _ r
 have r2:topRun treeTable PW w 11 (some (.ref 6)) 20000 ⟨boot_heap w.params,#[],boot_drawn,boot_toks,os⟩ (topStub PW)=some s.abs:=by
  rw[ZGt];exact r'
 have t:topFrom treeTable PW w 20000 ⟨boot_heap w.params,#[],boot_drawn,boot_toks,os⟩=some s.abs:=by
  unfold topFrom
  dsimp only
  rw[z1,z2,z3,r2]
  show(match staticsOk (importedModules PW.main.body) (boot_heap w.params) s.abs.heap&&namesBound PW s.abs.heap&&gensDone s.abs&&laidKept (boot_heap w.params) s.abs.heap with|true=>_|false=>_)=_
  rw[l1]
 unfold openEnds
 rw[e]
 show(topFrom treeTable PW w 20000 _).map _=_
 rw[t]
 exact congrArg some (Prod.ext l2 l3)
end
section
set_option maxHeartbeats 0
abbrev RW':OpenRow:=PySem.Challenge.rw_tn0025_01.row
noncomputable def ZQj:Stmt->Pos
 | .FunctionDef _ _ _ _ _ _ _ _ _ p=>p
 |_=>default
noncomputable def ZAj:DefRec:=⟨Str.ofString "law",Zhy (tD 92),Zju (tD 92),Jg (tD 92),ZQj (tD 92)⟩
theorem ZEp:defOf Zin RW'.name=some (ZAj,[]):=by
 refine Zs ?_
 k_slotget
theorem ZEn:RW'.prog.theDef RW'.name=some (ZAj.params,ZAj.body,ZAj.scope):=by
 refine Zs ?_
 k_slotget
theorem ZLo:kwWritten? ZAj.params.kwonlyargs ZAj.params.kw_defaults=some []:=by
 refine Zs ?_
 k_slotget
theorem ZLn:(chainsOk Zin&&opensWell RW'.prog&&(frees RW'.toRowW&&RW'.within.isEmpty))=true:=by
 refine Zs ?_
 k_slotget
theorem Zro:RW'.prog.bare:=⟨rfl,rfl,rfl,rfl,rfl,by decide+kernel⟩
theorem ZXs(w:World)(s:Shared)(x:Zzc.map s.heap.get?=(K w.params).map λp=>some p.2):(K w.params).In s.heap:=
 Frag.in_of (as:=Zzc) (by refine Zs ?_;k_slotget) x
noncomputable abbrev Zul:Prop:=WalkO Zin Zhh (λ_ _=>True) (λw h=>(K w.params).In h) RW'.toRowW ZAj [] λf vs=>PySem.call f vs
theorem row_holds(said:RW'.wellSaid=true)(call:Zul):RW'.Holds:=by
 refine holds_open (q:=Zin) (loose:=Zhh) (Xt:=λ_=>true) (XP:=λ_ _=>True) (YP:=λw h=>(K w.params).In h) (d:=ZAj) (kwd:=[]) Zwo ZXs (λw h h' x k=>x.keeps k) (λ_ _=>trivial) (λ_ _ _ _ _=>trivial)
  ZEp ZEn ZLo (λs _=>recFacts_of rfl) rfl said ZLn Zro ?_ call
 w_witness2
end
section
noncomputable def Zmm(st:Stmt):List Str:=((Zhy st).posonlyargs++(Zhy st).args).map (·.arg)
noncomputable def Zy(st:Stmt)(pols:List Pol)(dflts:List MV):Fn:={params:=Zmm st,pols:=pols,dflts:=dflts,body:=Zju st,names:=(Jg st).names}
namespace TP
noncomputable abbrev f:Pol:=.frz
noncomputable abbrev l:Pol:=.lend
noncomputable abbrev m:Pol:=.move
end TP
open TP in
noncomputable def fnT:List (Nat×Fn):=[
 (77,Zy (mD 13 0) [l,f,f,f,f,f] []),
 (84,Zy (mD 13 1) [l,f] []),
 (105,Zy (mD 14 0) [l,f,f,f,f,f] []),
 (112,Zy (mD 14 1) [l,f] []),
 (133,Zy (mD 15 0) [l,f,f,f,f,m,f,f,f] []),
 (147,Zy (mD 15 2) [l,f,f,f,f] []),
 (303,Zy (tD 29) [f] []),
 (313,Zy (tD 31) [f] []),
 (334,Zy (tD 34) [f,f,f] []),
 (341,Zy (tD 35) [f] []),
 (355,Zy (mD 36 0) [l,f,f] []),
 (362,Zy (mD 36 1) [l,f,f] []),
 (369,Zy (mD 36 2) [l,f,f,f] []),
 (374,Zy (mD 36 3) [l,f,f] []),
 (381,Zy (mD 36 4) [l,f,f] []),
 (388,Zy (mD 36 5) [l,f,f] []),
 (395,Zy (mD 36 6) [l,f] []),
 (400,Zy (mD 36 7) [l] []),
 (407,Zy (mD 36 8) [l] []),
 (421,Zy (tD 37) [f,f] [.tup []]),
 (431,Zy (tD 43) [f,f] []),
 (438,Zy (tD 44) [f] []),
 (445,Zy (tD 45) [f] []),
 (450,Zy (tD 46) [f,f] []),
 (457,Zy (tD 47) [f,f] []),
 (464,Zy (tD 48) [f] []),
 (471,Zy (tD 49) [f] []),
 (476,Zy (tD 50) [f] []),
 (483,Zy (tD 51) [f] []),
 (490,Zy (tD 52) [f] []),
 (497,Zy (tD 53) [f,f] []),
 (504,Zy (tD 54) [f] []),
 (511,Zy (tD 55) [f] []),
 (518,Zy (tD 56) [f] []),
 (525,Zy (tD 57) [f] []),
 (539,Zy (tD 59) [f] []),
 (546,Zy (tD 60) [f] []),
 (551,Zy (tD 61) [f] []),
 (558,Zy (tD 62) [f] []),
 (563,Zy (tD 63) [f,f] []),
 (570,Zy (tD 65) [f] []),
 (577,Zy (tD 66) [l,f] []),
 (584,Zy (tD 67) [l,f] []),
 (591,Zy (tD 68) [l] []),
 (598,Zy (tD 69) [l,f] []),
 (605,Zy (tD 70) [l] []),
 (612,Zy (tD 71) [l,f] []),
 (619,Zy (tD 72) [l,f] []),
 (626,Zy (tD 73) [l,f,f] []),
 (633,Zy (tD 74) [f] []),
 (640,Zy (tD 75) [l,l,f,f] []),
 (645,Zy (tD 76) [l] []),
 (652,Zy (tD 77) [l] []),
 (657,Zy (tD 78) [l,f,f,f] []),
 (662,Zy (tD 79) [l,f,f] []),
 (667,Zy (tD 80) [l,f,f,f,f] []),
 (674,Zy (tD 81) [m,f,f] []),
 (679,Zy (tD 82) [f,f] []),
 (684,Zy (tD 83) [f,f,f] []),
 (689,Zy (tD 84) [f] []),
 (694,Zy (tD 85) [f] []),
 (701,Zy (tD 86) [f] []),
 (708,Zy (tD 87) [f,f,f,f] []),
 (713,Zy (tD 88) [f,f,f] []),
 (720,Zy (tD 89) [f] []),
 (725,Zy (tD 90) [l,f,f,f,f] []),
 (730,Zy (tD 91) [f,f,f,f] []),
 (735,Zy (tD 92) [f] [])]
open KP in
noncomputable def Zwm:List (Nat×List (Str×Nat)):=[
 (87,[(o "__init__",77),(o "with_target",84)]),
 (115,[(o "__init__",105),(o "covers",112)]),
 (150,[(o "__init__",133),(o "with_rows",147)]),
 (410,[(o "__init__",355),(o "fail",362),(o "reach",369),(o "need_form",374),(o "need_slots",381),(o "need_child",388),(o "step",395),(o "need_catches",400),(o "run",407)])]
noncomputable def Zla:List (Nat×List Str):=[
 (87,["op","a","b","c","line"]),
 (115,["sort","first","last","target","depth"]),
 (150,["kind","name","params","slots","rows","catches","children","starts","number"]),
 (410,["code","seen","depths","waiting"])]
noncomputable def TT:Tab where
 fn a:=fnT.lookup a
 glob x:=Xw.lookup x
 meth c x:=(Zwm.lookup c).bind λl=>l.lookup x
 exc a:=a==52
 plain c x:=match Zla.lookup c with
  |some l=>l.contains x
  |none=>false
end
section
set_option genCtorIdx true
noncomputable abbrev Sg:=List (Option OV)
noncomputable def nth{α:Type}:List α->Nat->Option α
 |a::_,0=>some a
 |_::r,n+1=>nth r n
 | [],_=>none
noncomputable def put{α:Type}:List α->Nat->α->List α
 |_::r,0,v=>v::r
 |a::r,n+1,v=>a::put r n v
 | [],_,_=>[]
theorem Xo{α:Type}{l:List α}{i:Nat}:nth l i=l[i]?:=by
 induction l generalizing i with
 |nil=>rfl
 |cons a r ih=>cases i with
  |zero=>rfl
  |succ i=>exact ih
theorem Zca{α:Type}{l:List α}{i:Nat}{o:Option α}(h:nth l i=o):l[i]?=o:=Xo.symm.trans h
theorem ZJz{α:Type}{l:List α}{i:Nat}{v:α}:put l i v=l.set i v:=by
 induction l generalizing i with
 |nil=>rfl
 |cons a r ih=>cases i with
  |zero=>rfl
  |succ i=>exact congrArg (a::·) ih
theorem Ut{α:Type}{v y:α}{j:Nat}{l:List α}{i:Nat}(h:nth (put l i v) j=some y):(j≠i/\nth l j=some y)\/(j=i/\y=v):=by
 rw[Xo,ZJz]at h
 by_cases q:i=j
 .subst q
  obtain⟨h1,e⟩:=List.getElem?_eq_some_iff.mp h
  rw[List.getElem_set_self]at e
  exact .inr ⟨rfl,e.symm⟩
 .exact .inl ⟨λe=>q e.symm,Xo.trans ((List.getElem?_set_ne q).symm.trans h)⟩
structure Cx where
 prog:Program
 w:World
 A:Around
 env:Env
 h₀:Heap
 l:List Env
 ok:Nat->Str->Prop
 bad:Addr
 K:Frag
 xs:List Str
 s1:Shared
 Z1:Zf
 W1:Ow
 fix:Bool
 pins:Nat->Option Value
 pn:List Nat
noncomputable def Cx.P(c:Cx):Px:=⟨c.w.params,c.ok⟩
noncomputable def Cx.M(c:Cx):Model:=model c.prog c.w
noncomputable def Cx.FL(c:Cx):List Addr:=c.l.filterMap (·.frame)
noncomputable def Cx.D(c:Cx):List Addr:=c.env.locals::c.env.cells.map (·.2)
noncomputable def Cx.X(c:Cx):List Addr:=c.env.locals::bif c.fix then[]else c.env.cells.map (·.2)
theorem Cx.X_D{c:Cx}{a:Addr}(h:a∈c.X):a∈c.D:=by
 obtain h|h:=List.mem_cons.mp h
 .exact h▸List.mem_cons_self
 .cases f:c.fix with
  |true=>rw[f]at h;exact absurd h List.not_mem_nil
  |false=>rw[f]at h;exact List.mem_cons_of_mem _ h
noncomputable def Zom(c:Option Addr)(a b:Option Value):Option NameKind->Option Value
 |some .local=>a
 |some .cell=>c.bind λ_=>b
 |some .free=>c.bind λ_=>b
 |_=>none
noncomputable def Cx.val(c:Cx)(w:Wd)(x:Str):Option Value:=Zom (c.env.cells.lookup x) (w.m x) (w.cm x) (c.env.kindOf x)
noncomputable def Cx.vl(c:Cx)(w:Wd)(i:Nat):Option Value:=(nth c.xs i).bind (c.val w)
noncomputable def Frs(h:Heap)(l:List Env):Prop:=∀e∈l,e.scope.kind≠.module/\∃L o,e.frame=some L/\h.get? L=some o/\∀vs,o.data≠.fields vs
inductive En where
 |o (o:OV) (v:Value)
 |al (i:Nat) (v:Value)
 |it (A:Wd->Nat->Prop)
noncomputable def ZHg(c:Cx)(w:Wd)(j:Nat):En->Prop
 | .o o v=>RepO c.P w (2*j+1) o v
 | .al i v=>c.vl w i=some v
 | .it A=>(∀w w' t t',w.Z.Sub w'.Z->(∀a o,w'.Z a=some o->w'.s.heap.get? a=some o)->Zun w w' t t'->A w t->A w' t')/\A w (2*j+1)
noncomputable def StOk(c:Cx)(w:Wd):List En->Prop
 | []=>True
 |e::r=>ZHg c w r.length e/\StOk c w r
noncomputable def EnvS(c:Cx)(w:Wd)(σ:Sg):Prop:=∀i o,nth σ i=some (some o)->∃v,c.vl w i=some v/\RepO c.P w (2*i) o v
structure Iv(c:Cx)(w:Wd):Prop where
 kept:∀a o,c.s1.heap.get? a=some o->c.W1 a=none->a ∉ c.X->w.s.heap.get? a=some o\/(a∈c.FL/\∃sl,w.s.heap.get? a=some {o with slots:=sl})
 zsub:c.Z1.Sub w.Z
 zok:∀a o,w.Z a=some o->w.s.heap.get? a=some o
 znew:∀a o,w.Z a=some o->c.Z1 a=some o\/c.W1 a≠none\/c.s1.heap.get? a=none
 wz:∀a,w.W a≠none->w.Z a=none/\∃o,w.s.heap.get? a=some o
 wnew:∀a,w.W a≠none->c.W1 a≠none\/c.s1.heap.get? a=none
 ns:w.s.heap.Ns c.env.locals w.m
 cl:∀x a,c.env.cells.lookup x=some a->w.s.heap.IsCell a (w.cm x)
 dd:∀a∈c.D,∃o,w.s.heap.get? a=some o
 frs:Frs w.s.heap c.l
 os:w.s.os=c.s1.os
 gens:w.s.gens=#[]
 pin:∀i v,c.pins i=some v->c.vl w i=some v
structure Inv(c:Cx)(w:Wd)(σ:Sg)(Γ:List En):Prop where
 iv:Iv c w
 en:EnvS c w σ
 st:StOk c w Γ
structure Beg(c:Cx):Prop where
 z0:∀a o,c.h₀.get? a=some o->c.Z1 a=some o
 d1:∀a,a∈c.D\/a∈c.FL->c.Z1 a=none/\c.W1 a=none/\∃o,c.s1.heap.get? a=some o
structure Stp(c:Cx)(X:Nat->Prop)(w w':Wd):Prop where
 kept:∀a o,w.s.heap.get? a=some o->w.W a=none->w'.s.heap.get? a=some o\/(a∈c.FL/\∃sl,w'.s.heap.get? a=some {o with slots:=sl})
 zsub:w.Z.Sub w'.Z
 zok:∀a o,w'.Z a=some o->w'.s.heap.get? a=some o
 znew:∀a o,w'.Z a=some o->w.Z a=some o\/w.W a≠none\/w.s.heap.get? a=none
 wz:∀a,w'.W a≠none->w'.Z a=none/\∃o,w'.s.heap.get? a=some o
 wnew:∀a,w'.W a≠none->w.W a≠none\/w.s.heap.get? a=none
 same:∀t,¬X t->Zun w w' t t
 m:w'.m=w.m
 cm:w'.cm=w.cm
 os:w'.s.os=w.s.os
 gens:w'.s.gens=w.s.gens
theorem Xp{h h':Heap}{a:Addr}{m:Str->Option Value}(x:h.Ns a m)(k:∀o,h.get? a=some o->∃o',h'.get? a=some o'/\o'.data=o.data):h'.Ns a m:=
 x.elim λo x=>x.elim λes x=>x.elim λep x=>(k o x.1).elim λo' q=>⟨o',es,ep,q.1,q.2.trans x.2.1,x.2.2⟩
theorem Yi{h h':Heap}{a:Addr}{v:Option Value}(x:h.IsCell a v)(k:∀o,h.get? a=some o->∃o',h'.get? a=some o'/\o'.data=o.data):h'.IsCell a v:=
 x.elim λo x=>(k o x.1).elim λo' q=>⟨o',q.1,q.2.trans x.2⟩
theorem Zj{α β:Type}[BEq β][LawfulBEq β]{l:List (β×α)}{x:β}{v:α}(h:l.lookup x=some v):(x,v)∈l:=by
 induction l with
 |nil=>exact ns h
 |cons p r ih=>
  rw[List.lookup_cons]at h
  cases q:x==p.1 with
  |true=>rw[q]at h;rw[eq_of_beq q,<- Option.some.inj h];exact List.mem_cons_self
  |false=>rw[q]at h;exact List.mem_cons_of_mem _ (ih h)
theorem Ze{α:Type}{o:Option α}{a:α}(h:o=some a):o≠none:=λe=>ns2 e h
section
variable{c:Cx}{X:Nat->Prop}{w w' w'':Wd}{σ σ':Sg}{Γ Γ':List En}
theorem Cx.cell_D{x:Str}{a:Addr}(h:c.env.cells.lookup x=some a):a∈c.D:=List.mem_cons_of_mem _ (List.mem_map.mpr ⟨_,Zj h,rfl⟩)
theorem Cx.locals_D:c.env.locals∈c.D:=List.mem_cons_self
theorem Iv.free(B:Beg c)(I:Iv c w){a:Addr}(h:a∈c.D\/a∈c.FL):w.Z a=none/\w.W a=none:=by
 have q:=B.d1 a h
 have no:¬(c.W1 a≠none\/c.s1.heap.get? a=none):=λz=>z.elim (λz=>z q.2.1) λz=>q.2.2.elim λo e=>ns2 z e
 refine⟨?_,?_⟩
 .cases z:w.Z a with
  |none=>rfl
  |some o=>exact((I.znew a o z).elim (λy=>ns2 q.1 y) no).elim
 .cases z:w.W a with
  |none=>rfl
  |some o=>exact(no (I.wnew a (Ze z))).elim
theorem Stp.data(S:Stp c X w w'){a:Addr}{o:Obj}(e:w.s.heap.get? a=some o)(h:w.W a=none):∃o',w'.s.heap.get? a=some o'/\o'.data=o.data:=
 (S.kept a o e h).elim (λq=>⟨o,q,rfl⟩) λq=>q.2.elim λsl q=>⟨_,q,rfl⟩
theorem Stp.val(S:Stp c X w w')(i:Nat):c.vl w' i=c.vl w i:=by unfold Cx.vl Cx.val;rw[S.m,S.cm]
theorem Stp.iv(B:Beg c)(I:Iv c w)(S:Stp c X w w'):Iv c w':=by
 have dn:∀a,a∈c.D\/a∈c.FL->w.W a=none:=λa h=>(I.free B h).2
 have new:∀a,w.W a≠none\/w.s.heap.get? a=none->c.W1 a≠none\/c.s1.heap.get? a=none:=λa h=>h.elim (I.wnew a) λh=>by
  by_cases q:c.W1 a=none
  .refine .inr ?_
   cases z:c.s1.heap.get? a with
   |none=>rfl
   |some o=>
    by_cases d:a∈c.X
    .exact(I.dd a (Cx.X_D d)).elim λo y=>ns2 h y
    .exact(I.kept a o z q d).elim (λy=>ns2 h y) λy=>y.2.elim λ_ y=>ns2 h y
  .exact .inl q
 have data:∀a∈c.D,∀o,w.s.heap.get? a=some o->∃o',w'.s.heap.get? a=some o'/\o'.data=o.data:=λa h o e=>S.data e (dn a (.inl h))
 refine⟨λa o e h d=>?_,λa o e=>S.zsub a o (I.zsub a o e),S.zok,λa o e=>(S.znew a o e).elim (I.znew a o) λh=>.inr (new a h),S.wz,λa h=>new a (S.wnew a h),?_,λx a h=>?_,
  λa h=>(I.dd a h).elim λo e=>(data a h o e).elim λo' q=>⟨o',q.1⟩,λe he=>⟨(I.frs e he).1,(I.frs e he).2.elim λL q=>q.elim λo q=>?_⟩,S.os.trans I.os,S.gens.trans I.gens,λi v e=>(S.val i).trans (I.pin i v e)⟩
 .have wn:w.W a=none:=by
   cases q:w.W a with
   |none=>rfl
   |some t=>exact((I.wnew a (Ze q)).elim (λz=>z h) λz=>ns2 z e).elim
  exact(I.kept a o e h d).elim (λq=>S.kept a o q wn) λq=>q.2.elim λsl y=>.inr ((S.kept a _ y wn).elim (λz=>⟨q.1,sl,z⟩) λz=>⟨q.1,z.2.elim λsl' z=>⟨sl',z⟩⟩)
 .rw[S.m];exact Xp I.ns λo=>data _ Cx.locals_D o
 .rw[S.cm];exact Yi (I.cl x a h) λo=>data _ (Cx.cell_D h) o
 .exact(S.data q.2.1 (dn L (.inr (List.mem_filterMap.mpr ⟨e,he,q.1⟩)))).elim λo' y=>⟨L,o',q.1,y.1,λvs=>y.2▸q.2.2 vs⟩
theorem Stp.enOk(S:Stp c X w w'){e:En}{j:Nat}(hj:¬X (2*j+1))(h:ZHg c w j e):ZHg c w' j e:=by
 cases e with
 |o o v=>exact RepO.keep S.zsub (S.same _ hj) h
 |al i v=>exact(S.val i).trans h
 |it A=>exact⟨h.1,h.1 _ _ _ _ S.zsub S.zok (S.same _ hj) h.2⟩
theorem Stp.stOk(S:Stp c X w w'):∀{Γ:List En},(∀j,j < Γ.length->¬X (2*j+1))->StOk c w Γ->StOk c w' Γ:=λ{Γ}=>by
 induction Γ with
 |nil=>exactλ_ h=>h
 |cons e r ih=>exactλhj h=>⟨S.enOk (hj _ (Nat.lt_succ_self _)) h.1,ih (λj q=>hj j (Nat.lt_succ_of_lt q)) h.2⟩
theorem Stp.enS(S:Stp c X w w')(hX:∀i,¬X (2*i))(h:EnvS c w σ):EnvS c w' σ:=λi o e=>(h i o e).elim λv q=>⟨v,(S.val i).trans q.1,q.2.keep S.zsub (S.same _ (hX i))⟩
noncomputable def Up(n:Nat)(t:Nat):Prop:=∃j,n<=j/\t=2*j+1
theorem Ztd{i j:Nat}:2*i≠2*j+1:=λh=>absurd ((Nat.mul_mod_right 2 i).symm.trans ((congrArg (· % 2) h).trans (Nat.mul_add_mod 2 j 1))) (by decide)
theorem Up.even{n i:Nat}:¬Up n (2*i):=λh=>h.elim λ_ h=>Ztd h.2
theorem Up.low{n j:Nat}(h:j < n):¬Up n (2*j+1):=λz=>z.elim λk z=>Nat.not_le_of_lt h ((Nat.eq_of_mul_eq_mul_left (by decide) (Nat.succ.inj z.2)).symm▸z.1)
theorem Up.odd{k t:Nat}(q:2*k+1<=t/\t % 2=1):Up k t:=
 have e:t=2*(t / 2)+1:=((congrArg (2*(t / 2)+·) q.2).symm.trans (Nat.div_add_mod t 2)).symm
 ⟨t / 2,Nat.le_of_mul_le_mul_left (Nat.le_of_succ_le_succ (Nat.le_trans q.1 (Nat.le_of_eq e))) (by decide),e⟩
theorem Zzz{k j:Nat}(h:k<=j):2*k+1<=2*j+1/\(2*j+1) % 2=1:=⟨Nat.succ_le_succ (Nat.mul_le_mul_left 2 h),Nat.mul_add_mod 2 j 1⟩
theorem Inv.next(B:Beg c)(I:Inv c w σ Γ)(S:Stp c (Up Γ.length) w w'):Inv c w' σ Γ:=⟨S.iv B I.iv,S.enS (λ_=>Up.even) I.en,S.stOk (λ_=>Up.low) I.st⟩
theorem Inv.push(B:Beg c)(I:Inv c w σ Γ)(S:Stp c (Up Γ.length) w w'){o:OV}{v:Value}(r:RepO c.P w' (2*Γ.length+1) o v):Inv c w' σ (.o o v::Γ):=⟨S.iv B I.iv,S.enS (λ_=>Up.even) I.en,r,S.stOk (λ_=>Up.low) I.st⟩
theorem Inv.pop{e:En}(I:Inv c w σ (e::Γ)):Inv c w σ Γ:=⟨I.iv,I.en,I.st.2⟩
theorem Inv.put(I:Inv c w σ Γ){m:MV}{v:Value}(r:RepF c.P w.Z m v):Inv c w σ (.o (.f m) v::Γ):=⟨I.iv,I.en,r,I.st⟩
theorem Stp.junk(I:Iv c w){h':Heap}(k:∀a o,w.s.heap.get? a=some o->h'.get? a=some o)(t:Nat):Stp c X w {w with s:={w.s with heap:=h',toks:=t}}:=
 ⟨λa o e _=>.inl (k a o e),λ_ _ e=>e,λa o e=>k a o (I.zok a o e),λ_ _ e=>.inl e,λa h=>⟨(I.wz a h).1,(I.wz a h).2.elim λo e=>⟨o,k a o e⟩⟩,λ_ h=>.inl h,
  λt _ b x e=>⟨e,(I.wz b (Ze e)).2.elim λo q=>(k b o q).trans q.symm⟩,rfl,rfl,rfl,rfl⟩
theorem Inv.junk(B:Beg c)(I:Inv c w σ Γ){h':Heap}(k:∀a o,w.s.heap.get? a=some o->h'.get? a=some o)(t:Nat):Inv c {w with s:={w.s with heap:=h',toks:=t}} σ Γ:=I.next B (.junk I.iv k t)
theorem Inv.tok(B:Beg c)(I:Inv c w σ Γ)(t:Nat):Inv c {w with s:={w.s with toks:=t}} σ Γ:=I.junk B (λ_ _ e=>e) t
theorem Stp.upd'(I:Iv c w){h:Heap}{Z':Zf}{W':Ow}{tk:Nat}{wr:Addr->Prop}(hw:∀b,wr b->∃q,w.W b=some q/\X q.1)(k:∀b o,¬wr b->w.s.heap.get? b=some o->h.get? b=some o)(hz:w.Z.Sub Z')
  (zn:∀a o,Z' a=some o->w.Z a=some o\/(w.s.heap.get? a=none/\h.get? a=some o))(hW:∀a,W' a≠none->w.W a≠none/\(wr a->∃o,h.get? a=some o))(hs:∀t x b,¬X t->w.W b=some (t,x)->W' b=some (t,x)):
  Stp c X w {w with s:={w.s with heap:=h,toks:=tk},Z:=Z',W:=W'}:=by
 have nw:∀{b},w.W b=none->¬wr b:=λe q=>(hw _ q).elim λy z=>ns2 e z.1
 have nz:∀{b o},w.Z b=some o->¬wr b:=λe q=>(hw _ q).elim λy z=>ns2 (I.wz _ (Ze z.1)).1 e
 refine⟨λa o e h=>.inl (k a o (nw h) e),hz,λa o e=>(zn a o e).elim (λq=>k a o (nz q) (I.zok a o q)) (·.2),λa o e=>(zn a o e).imp id λq=>.inr q.1,λa e=>⟨?_,?_⟩,λa e=>.inl (hW a e).1,λt ht b x e=>⟨hs t x b ht e,?_⟩,rfl,rfl,rfl,rfl⟩
 .show Z' a=none
  have z1:=I.wz a (hW a e).1
  cases q:Z' a with
  |none=>rfl
  |some o=>exact((zn a o q).elim (λz=>ns2 z1.1 z) λz=>z1.2.elim λy hy=>ns2 z.1 hy)
 .by_cases q:wr a
  .exact(hW a e).2 q
  .exact(I.wz a (hW a e).1).2.elim λo z=>⟨o,k a o q z⟩
 .exact(I.wz b (Ze e)).2.elim λo z=>(k b o (λq=>(hw b q).elim λy z=>ht (by rw[show t=y.1 from congrArg Prod.fst (Option.some.inj (e.symm.trans z.1))];exact z.2)) z).trans z.symm
theorem Stp.upd(I:Iv c w){h:Heap}{Z':Zf}{tk:Nat}{wr:Addr->Prop}(hw:∀b,wr b->∃q,w.W b=some q/\X q.1)(k:∀b o,¬wr b->w.s.heap.get? b=some o->h.get? b=some o)(live:∀b,wr b->∃o,h.get? b=some o)(hz:w.Z.Sub Z')
  (zn:∀a o,Z' a=some o->w.Z a=some o\/(w.s.heap.get? a=none/\h.get? a=some o)):Stp c X w {w with s:={w.s with heap:=h,toks:=tk},Z:=Z'}:=
 .upd' I hw k hz zn (λa e=>⟨e,live a⟩) λ_ _ _ _ e=>e
theorem Zl(h:Heap):h.get? h.objs.size=none:=by
 cases q:h.get? h.objs.size with
 |none=>rfl
 |some o'=>exact absurd (Heap.lt_size q) (Nat.lt_irrefl _)
theorem Uy{g h:Heap}(k:∀a o,g.get? a=some o->h.get? a=some o):g.get? h.objs.size=none:=by
 cases q:g.get? h.objs.size with
 |none=>rfl
 |some y=>exact ns2 (Zl h) (k _ y q)
noncomputable def alc(w:Wd)(h:Heap)(b:Addr)(tk:Nat)(W':Option (Nat×Option Str))(Z':Option Obj):Wd:={w with s:={w.s with heap:=h,toks:=tk},W:=λa=>if a=b then W' else w.W a,Z:=λa=>if a=b then Z' else w.Z a}
theorem Stp.alc(I:Iv c w){h:Heap}{b:Addr}(k:∀a o,w.s.heap.get? a=some o->h.get? a=some o)(hn:w.s.heap.get? b=none){o:Obj}(hb:h.get? b=some o){tk:Nat}{W':Option (Nat×Option Str)}{Z':Option Obj}(hz:∀q,Z'=some q->q=o)(hw:W'≠none->Z'=none):Stp c X w (alc w h b tk W' Z'):=by
 have ne:∀{a y},w.s.heap.get? a=some y->a≠b:=λ{a y} e q=>ns2 hn ((congrArg w.s.heap.get? q).symm.trans e)
 refine⟨λa y e _=>.inl (k a y e),λa y e=>(if_neg (ne (I.zok a y e))).trans e,λa y e=>?_,λa y e=>?_,λa e=>?_,λa e=>?_,λt _ b x e=>(I.wz b (Ze e)).2.elim λy q=>⟨(if_neg (ne q)).trans e,(k b y q).trans q.symm⟩,rfl,rfl,rfl,rfl⟩
 .by_cases q:a=b
  .subst q;rw[hz y ((if_pos rfl).symm.trans e)];exact hb
  .exact k a y (I.zok a y ((if_neg q).symm.trans e))
 .by_cases q:a=b
  .exact .inr (.inr (q▸hn))
  .exact .inl ((if_neg q).symm.trans e)
 .by_cases q:a=b
  .subst q;exact⟨(if_pos rfl).trans (hw λz=>e ((if_pos rfl).trans z)),o,hb⟩
  .exact(I.wz a λz=>e ((if_neg q).trans z)).elim λz1 z2=>⟨(if_neg q).trans z1,z2.elim λy z=>⟨y,k a y z⟩⟩
 .by_cases q:a=b
  .exact .inr (q▸hn)
  .exact .inl λz=>e ((if_neg q).trans z)
theorem Iv.zn(I:Iv c w){b:Addr}(hn:w.s.heap.get? b=none):w.Z b=none:=by
 cases q:w.Z b with
 |none=>rfl
 |some y=>exact ns2 hn (I.zok _ _ q)
theorem Inv.ownlist(B:Beg c)(I:Inv c w σ Γ){h:Heap}{b:Addr}(k:∀a o,w.s.heap.get? a=some o->h.get? a=some o)(hn:w.s.heap.get? b=none){l:List MV}{vs:List Value}{n:Nat}(hb:h.get? b=some (Zaj vs n))(tk:Nat)(r:RepFs c.P w.Z l vs)(hl:l.length<=Zb):
  Inv c (alc w h b tk (some (2*Γ.length+1,Zja)) (w.Z b)) σ (.o (.l l) (.ref b)::Γ):=by
 have zn:=I.iv.zn hn
 have S:Stp c (Up Γ.length) w (alc w h b tk (some (2*Γ.length+1,Zja)) (w.Z b)):=.alc I.iv k hn hb (λq e=>ns2 zn e) λ_=>zn
 exact I.push B S ⟨_,vs,n,rfl,if_pos rfl,hb,r.mono S.zsub,hl⟩
theorem Inv.newlist(B:Beg c)(I:Inv c w σ Γ){h:Heap}(k:∀a o,w.s.heap.get? a=some o->h.get? a=some o)(tk n:Nat){l:List MV}{vs:List Value}(r:RepFs c.P w.Z l vs)(hl:l.length<=Zb):
  Inv c (alc w (h.push (Zaj vs n)) h.objs.size tk (some (2*Γ.length+1,Zja)) (w.Z h.objs.size)) σ (.o (.l l) (.ref h.objs.size)::Γ):=
 I.ownlist B (λa o e=>Heap.get?_push_of_some _ (k a o e)) (Uy k) (Heap.get?_push_size _ rfl) tk r hl
theorem Inv.newtup(B:Beg c)(I:Inv c w σ Γ){h:Heap}(k:∀a o,w.s.heap.get? a=some o->h.get? a=some o)(tk n:Nat){l:List MV}{vs:List Value}(r:RepFs c.P w.Z l vs)(hl:l.length<=Zb):
  Inv c (alc w (h.push (Zuq vs n)) h.objs.size tk none (some (Zuq vs n))) σ (.o (.f (.tup l)) (.ref h.objs.size)::Γ):=by
 have S:Stp c (Up Γ.length) w (alc w (h.push (Zuq vs n)) h.objs.size tk none (some (Zuq vs n))):=.alc I.iv (λa o e=>Heap.get?_push_of_some _ (k a o e)) (Uy k) (Heap.get?_push_size _ rfl) (λq e=>(Option.some.inj e).symm) λq=>absurd rfl q
 exact I.push B S ⟨_,vs,n,rfl,if_pos rfl,r.mono S.zsub,hl⟩
end
end
section
open PySem.Calls
noncomputable abbrev Tg:=Nat×Option Str
noncomputable def isT(p:Tg->Bool):Option Tg->Bool
 |some q=>p q
 |none=>false
theorem Zlp{p:Tg->Bool}{o:Option Tg}(h:isT p o=true):o≠none:=λe=>nf (e▸h:isT p none=true)
theorem ZAn{p:Tg->Bool}{o:Option Tg}{q:Tg}(h:o=some q):isT p o=p q:=h▸rfl
noncomputable def fz(w:Wd)(p:Tg->Bool):Wd:={w with Z:=λa=>if isT p (w.W a)=true then w.s.heap.get? a else w.Z a,W:=λa=>if isT p (w.W a)=true then none else w.W a}
noncomputable def ZBe(t:Nat)(q:Tg):Bool:=q.1==t
noncomputable def ZKn(q₀ q:Tg):Bool:=q==q₀
noncomputable def mvT(t t':Nat)(p:Tg):Tg:=if p.1=t then(t',p.2)else p
noncomputable def rtg(w:Wd)(t t':Nat):Wd:={w with W:=λa=>(w.W a).map (mvT t t')}
section
variable{c:Cx}{X:Nat->Prop}{w w':Wd}{σ σ':Sg}{Γ Γ':List En}{t t':Nat}{o:OV}{v:Value}
theorem Iv.zW(I:Iv c w){a:Addr}{y:Obj}(e:w.Z a=some y)(h:w.W a≠none):False:=ns2 (I.wz a h).1 e
theorem Zsp{p:Tg->Bool}(I:Iv c w):w.Z.Sub (fz w p).Z:=λa y e=>(if_neg λq=>I.zW e (Zlp q)).trans e
theorem Zsq{p:Tg->Bool}{b:Addr}{q:Tg}(e:w.W b=some q)(h:p q=false):(fz w p).W b=some q:=(if_neg (by rw[ZAn e,h];decide)).trans e
theorem ZFo{p:Tg->Bool}{b:Addr}{q:Tg}(e:w.W b=some q)(h:p q=true):(fz w p).Z b=w.s.heap.get? b:=if_pos ((ZAn e).trans h)
theorem Stp.fz{p:Tg->Bool}(I:Iv c w)(hX:∀q,p q=true->X q.1):Stp c X w (fz w p):=by
 refine⟨λa y e _=>.inl e,Zsp I,λa y e=>?_,λa y e=>?_,λa e=>?_,λa e=>.inl λz=>e ?_,λs hs b x e=>⟨Zsq e (Bool.eq_false_iff.mpr λq=>hs (hX _ q)),rfl⟩,rfl,rfl,rfl,rfl⟩
 .by_cases q:isT p (w.W a)=true
  .exact(if_pos q).symm.trans e
  .exact I.zok a y ((if_neg q).symm.trans e)
 .by_cases q:isT p (w.W a)=true
  .exact .inr (.inl (Zlp q))
  .exact .inl ((if_neg q).symm.trans e)
 .by_cases q:isT p (w.W a)=true
  .exact absurd (if_pos q) e
  .exact⟨(if_neg q).trans (I.wz a λz=>e ((if_neg q).trans z)).1,(I.wz a λz=>e ((if_neg q).trans z)).2⟩
 .exact(show(if isT p (w.W a)=true then none else w.W a)=none by rw[z];exact ite_self none)
theorem Zuh{P:Nat->Prop}(h:P t):∀q,ZBe t q=true->P q.1:=λq e=>by rw[show q.1=t from beq_iff_eq.mp e];exact h
theorem RepO.fr(I:Iv c w)(r:RepO c.P w t o v):RepF c.P (fz w (ZBe t)).Z o.frz v:=r.frz (Zsp I) λb x e=>ZFo e (beq_self_eq_true t)
theorem Inv.frz(B:Beg c)(I:Inv c w σ (.o o v::Γ)):Inv c (fz w (ZBe (2*Γ.length+1))) σ (.o (.f o.frz) v::Γ):=I.pop.push B (.fz I.iv (Zuh ⟨_,Nat.le_refl _,rfl⟩)) (RepO.fr I.iv I.st.1)
theorem Zzo{a:Addr}{s:Nat}{x:Option Str}(e:w.W a=some (s,x)):(rtg w t t').W a=some (mvT t t' (s,x)):=by
 show(w.W a).map (mvT t t')=_
 rw[e];rfl
theorem Stp.mv(I:Iv c w)(hX:X t):Stp c X w (rtg w t t'):=by
 have no:∀{a},(rtg w t t').W a≠none->w.W a≠none:=λh z=>h (congrArg (Option.map (mvT t t')) z)
 refine⟨λa y e _=>.inl e,λ_ _ e=>e,λa y e=>I.zok a y e,λa y e=>.inl e,λa e=>I.wz a (no e),λa e=>.inl (no e),λs hs b x e=>⟨(Zzo e).trans (congrArg some (if_neg λq=>hs ?_)),rfl⟩,rfl,rfl,rfl,rfl⟩
 rw[show s=t from q];exact hX
theorem RepO.mv(r:RepO c.P w t o v):RepO c.P (rtg w t t') t' o v:=RepO.keep (w:=w) (t:=t) (w':=rtg w t t') (λ_ _ e=>e) (λb x e=>⟨(Zzo (t:=t) (t':=t') e).trans (congrArg some (if_pos rfl)),rfl⟩) r
theorem EnvS.set(S:Stp c X w w')(hX:∀j,X (2*j)->j=t)(h:EnvS c w σ)(hv:c.vl w t=some v)(r:RepO c.P w' (2*t) o v):EnvS c w' (put σ t (some o)):=λj y e=>(Ut e).elim
 (λq=>(h j y q.2).elim λu z=>⟨u,(S.val j).trans z.1,z.2.keep S.zsub (S.same _ λk=>q.1 (hX j k))⟩)
 λq=>⟨v,by rw[q.1,S.val,hv],by rw[q.1,Option.some.inj q.2];exact r⟩
theorem EnvS.del(S:Stp c X w w')(hX:∀j,X (2*j)->j=t)(h:EnvS c w σ):EnvS c w' (put σ t none):=λj y e=>(Ut e).elim
 (λq=>(h j y q.2).elim λu z=>⟨u,(S.val j).trans z.1,z.2.keep S.zsub (S.same _ λk=>q.1 (hX j k))⟩)
 λq=>ns q.2.symm
noncomputable def ZOs(K:Frag)(c:Nat)(x:Str):Prop:=plainGet K c x=true/\hasDictIn K c=true/\findIn K (.ref c) x=some none/\
 findIn K (.ref c) "__setattr__"=some (some (.builtin "object.__setattr__"))/\plainOver K c=true/\takerIn K c x=some none
structure Zuo(c:Cx)(a:Addr)(fn:Fn):Prop where
 ex:∃(o:Obj) (fd:FuncData),c.h₀.get? a=some o/\o.data=.func fd/\c.h₀.CodeRec fd.code fd.qualname/\fd.body=.stmts fn.body/\fd.closure=[]/\fd.scope.names=fn.names/\fd.scope.kind=.function/\
  fd.scope.isCoroutine=false/\fd.scope.isGenerator=false/\fd.globals=mainGlobals/\fd.builtins=builtinsNs/\
  ∀(s:Shared) (vs:List Value),(∀b o,c.h₀.get? b=some o->s.heap.get? b=some o)->vs.length<=fn.params.length->fn.params.length - vs.length<=fn.dflts.length->
   ∃ds,RepFs c.P c.h₀.get? (fn.dflts.drop (fn.dflts.length - (fn.params.length - vs.length))) ds/\BindsTo s fd ⟨vs,[]⟩ (fn.params.zip (vs++ds))
 kinds:∀x∈fn.params,fn.names.lookup x=some .local\/fn.names.lookup x=some .cell
 nodup:fn.params.Nodup
 lend:fn.dflts=[]\/∀p∈fn.pols,p≠.lend
 cells:((cellsFrom 0 fn.names []).map (·.1)).Nodup
 keep:keepIn c.K (.ref a)=true
 names:∀x k,fn.names.lookup x=some k->(x==("__debug__":Str))=false/\(x==("__classdict__":Str))=false
structure ZOp(c:Cx)(a i:Nat):Prop where
 keep:keepIn c.K (.ref a)=true
 makes:makesIn c.K a=true
 init:findIn c.K (.ref a) "__init__"=some (some (.ref i))
 fn:typeIn c.K (.ref i)=some (.type "function")
structure ZOo(c:Cx)(cl:Nat)(a:Str)(f:Nat):Prop where
 plain:plainGet c.K cl a=true
 find:findIn c.K (.ref cl) a=some (some (.ref f))
 fn:isFn c.K (.ref f)=true
structure ZOr(c:Cx)(i:Nat)(fn:Fn):Prop where
 ok:Zuo c i fn
 params:fn.params=[("self":Str),("reason":Str)]
 kself:fn.names.lookup ("self":Str)=some .local
 kreason:fn.names.lookup ("reason":Str)=some .local
 kv:fn.names.lookup ("ValueError":Str)=some .globalImplicit
 body:∃p1 p2 p3 p4 p5 p6 p7 p8 p9 p10,fn.body=[.Expr (.Call (.Attribute (.Name "ValueError" p1) "__init__" p2) [.Name "self" p3,.Name "reason" p4] [] p5) p6,.Assign [.Attribute (.Name "self" p7) "reason" p8] (.Name "reason" p9) p10]/\(p2.endLine==p5.line)=true
structure ZOq(c:Cx):Prop where
 exc:∀a,TT.exc a=true->a=c.bad
 obj:∃nm q N bs G sn sub ab col dd k0 k1 k2 k3 k5,c.h₀.get? c.bad=some (excClassObj nm q c.bad N bs [.ref G,.type "ValueError",.type "Exception",.type "BaseException",.type "object"] true sn sub ab col dd k0 k1 k2 k3 k5 "ValueError.__new__")/\
  ∃cd,clsIn c.K c.bad=some cd/\cd.mro=[.ref c.bad,.ref G,.type "ValueError",.type "Exception",.type "BaseException",.type "object"]/\cd.hasDict=true
 glob:TT.glob "ValueError"=some (.con (.type "ValueError"))
 init:∃i fn,findIn c.K (.ref c.bad) "__init__"=some (some (.ref i))/\typeIn c.K (.ref i)=some (.type "function")/\ZOr c i fn
 look:findCls c.K (.type "ValueError") (.type "type") "__init__"=some (.val (.builtin "ValueError.__init__"))
 sa:findIn c.K (.ref c.bad) "__setattr__"=some (some (.builtin "object.__setattr__"))
 reason:findIn c.K (.ref c.bad) "reason"=some none
 keep:keepIn c.K (.ref c.bad)=true
structure Base(c:Cx):Prop where
 kin:c.K.In c.h₀
 nolimit:c.h₀.NoLimit
 glob:∃mg mb,c.h₀.Ns mainGlobals mg/\c.h₀.Ns builtinsNs mb/\∀x m,TT.glob x=some m->∃v,RepF c.P c.h₀.get? m v/\(mg x=some v\/(mg x=none/\mb x=some v))
 attr:∀cl x,c.ok cl x->ZOs c.K cl x
 plain:∀cl x,TT.plain cl x=true->c.ok cl x
 fns:∀a fn,TT.fn a=some fn->Zuo c a fn
 cls:∀a i,TT.fn a=none->TT.meth a "__init__"=some i->ZOp c a i
 meth:∀cl a f,TT.meth cl a=some f->ZOo c cl a f
 bad:ZOq c
structure Blk(c:Cx)(sc:Sc):Prop extends Base c,Beg c where
 kf:c.env.scope.kind=.function
 eg:c.env.globals=mainGlobals
 eb:c.env.builtins=builtinsNs
 kind:∀x,c.env.kindOf x=sc.lookup x
 kcell:∀x,sc.lookup x=some .cell->(c.env.cells.lookup x).isSome=true
 nm:∀x k,sc.lookup x=some k->(x==("__debug__":Str))=false/\(x==("__classdict__":Str))=false
 nx:c.xs.Nodup
 cd:c.fix=false->(c.env.cells.map (·.2)).Nodup
 pp:∀i,c.pn.contains i=false->c.pins i=none
variable{sc:Sc}{x:Str}{pos:Pos}{Q:Value->Shared->Prop}{E:Value->Shared->Prop}{i:Nat}{tk:Nat}
theorem Iv.h0(B:Beg c)(I:Iv c w):∀a y,c.h₀.get? a=some y->w.Z a=some y:=λa y e=>I.zsub a y (B.z0 a y e)
theorem Iv.hh(B:Beg c)(I:Iv c w):∀a y,c.h₀.get? a=some y->w.s.heap.get? a=some y:=λa y e=>I.zok a y (I.h0 B a y e)
noncomputable def Zni:Option NameKind->Bool
 |some .local=>true
 |some .cell=>true
 |some .free=>true
 |_=>false
theorem Xr(B:Blk c sc)(I:Iv c w)(hi:nth c.xs i=some x)(hk:Zni (sc.lookup x)=true)(hv:c.vl w i=some v)(h:Q v {w.s with toks:=tk}):
  wpAny c.M c.A (eval (.Name x pos) c.env) Q E {w.s with toks:=tk}:=by
 unfold Cx.vl at hv
 rw[hi]at hv
 have hv:Zom (c.env.cells.lookup x) (w.m x) (w.cm x) (c.env.kindOf x)=some v:=hv
 have hb:=B.kind x
 cases hs:sc.lookup x with
 |none=>rw[hs]at hk;exact nf hk
 |some k=>
  have nm:=B.nm x k hs
  rw[hs]at hk hb
  rw[hb]at hv
  have cell:∀{k},(k=.cell\/k=.free)->c.env.kindOf x=some k->((c.env.cells.lookup x).bind λ_=>w.cm x)=some v->wpAny c.M c.A (eval (.Name x pos) c.env) Q E {w.s with toks:=tk}:=λ{k} ck hb hv=>by
   obtain⟨a,ha,hv⟩:=Option.bind_eq_some_iff.mp hv
   have ic:=hv▸I.cl x a ha
   rcases ck with rfl|rfl
   .exact wpAny_Name (wpAny_loadName_cell B.kf hb ha ic h) nm.1
   .exact wpAny_Name (wpAny_loadName_free B.kf hb ha ic h nm.2) nm.1
  cases k with
  |«local»=>exact wpAny_Name (wpAny_loadName_local B.kf hb I.ns hv h) nm.1
  |cell=>exact cell (.inl rfl) hb hv
  |free=>exact cell (.inr rfl) hb hv
  |_=>exact nf hk
theorem Zhi(B:Blk c sc){s:Shared}(k:∀a y,c.h₀.get? a=some y->s.heap.get? a=some y){m:MV}(hk:sc.lookup x=some .globalImplicit)(hm:TT.glob x=some m):
  ∃v,RepF c.P c.h₀.get? m v/\∀{A:Around} {tk:Nat} {Q:Value->Shared->Prop} {E:Value->Shared->Prop},Q v {s with toks:=tk}->wpAny c.M A (eval (.Name x pos) c.env) Q E {s with toks:=tk}:=by
 obtain⟨mg,mb,hg,hb,h⟩:=B.glob
 obtain⟨v,r,hv⟩:=h x m hm
 have kd:=(B.kind x).trans hk
 refine⟨v,r,λ{A tk Q E} q=>Name_function_global B.kf kd ?_ (B.nm x _ hk).1⟩
 rcases hv with hv|hv
 .exact loadGlobal_global (by rw[B.eg];exact hg.keeps k) hv q
 .exact loadGlobal_builtin (by rw[B.eg];exact hg.keeps k) hv.1 (by rw[B.eb];exact hb.keeps k) hv.2 q
theorem Zt(B:Blk c sc)(I:Iv c w){m:MV}(hk:sc.lookup x=some .globalImplicit)(hm:TT.glob x=some m):
  ∃v,RepF c.P w.Z m v/\∀{tk:Nat} {Q:Value->Shared->Prop} {E:Value->Shared->Prop},Q v {w.s with toks:=tk}->wpAny c.M c.A (eval (.Name x pos) c.env) Q E {w.s with toks:=tk}:=
 (Zhi (pos:=pos) B (I.hh B.toBeg) hk hm).imp λv h=>⟨h.1.mono (I.h0 B.toBeg),h.2⟩
theorem Zlu(B:Base c)(k0:∀a y,c.h₀.get? a=some y->w.s.heap.get? a=some y){a d:Addr}{cl:Nat}{es:List DictEntry}{n:Nat}(h1:w.s.heap.get? a=some (instObj cl d))(h2:w.s.heap.get? d=some (dictOf es n))
  (hl:getL x es=some (some v))(hh:handedIn v=true)(ok:c.ok cl x){expr:Bool}(h:∀t,Q v {w.s with toks:=t}):wpAny c.M c.A (getAttr (.ref a) x expr) Q E {w.s with toks:=tk}:=by
 have A:=B.attr cl x ok
 exact get_value (s:={w.s with toks:=tk}) (B.kin.keeps k0) (⟨h1,rfl,rfl,h2⟩:InstAt w.s.heap a (instObj cl d) cl (some (dictOf es n))) (plainGet_of A.1).1 (findObj_own A.2.1 A.2.2.1 rfl hl) hh (h _)
theorem Zfq{e:DictEntry}{q:List DictEntry}{P:Px}(h:Zcy P x e):getL x (e::q)=some (some e.val):=by
 obtain⟨⟨t,hk⟩,_⟩:=h
 unfold getL
 rw[List.find?_cons,hk]
 simp[Value.isStr]
theorem Zco{e:DictEntry}{q:List DictEntry}{P:Px}{y:Str}(h:Zcy P y e)(n:y≠x)(r:getL x q=some (some v)):getL x (e::q)=some (some v):=by
 obtain⟨⟨t,hk⟩,_⟩:=h
 unfold getL at r⊢
 rw[List.find?_cons,hk,show(Value.str y t).isStr x=false by simp[Value.isStr,n]]
 cases hf:q.find? (·.key.isStr x)with
 |none=>
  rw[hf]at r
  simp only at r
  split at r <;> cases r
 |some e'=>rw[hf]at r;exact r
theorem Xq{α:Type}{p:Str×α}{r:List (Str×α)}{m:α}(h:(p::r).lookup x=some m):(p.1=x/\p.2=m)\/(p.1≠x/\r.lookup x=some m):=by
 rw[List.lookup_cons]at h
 by_cases q:x=p.1
 .rw[q,beq_self_eq_true]at h;exact .inl ⟨q.symm,Option.some.inj h⟩
 .rw[beq_eq_false_iff_ne.mpr q]at h;exact .inr ⟨Ne.symm q,h⟩
theorem RepD.look{P:Px}{Z:Zf}{cl:Nat}{m:MV}{fs:List (Str×MV)}:∀{es:List DictEntry},RepD P Z cl fs es->fs.lookup x=some m->∃v,getL x es=some (some v)/\RepF P Z m v/\P.ok cl x:=by
 induction fs with
 |nil=>exactλ_ e=>ns e
 |cons p r ih=>
  rintro es ⟨e,q,rfl,h1,h2,h3,h4⟩ h
  rcases Xq h with⟨rfl,rfl⟩|⟨n,h⟩
  .exact⟨_,Zfq h1,h3,h2⟩
  .exact(ih h4 h).elim λv z=>⟨v,Zco h1 n z.1,z.2⟩
theorem RepOD.look{P:Px}{cl:Nat}{m:OF}{fs:List (Str×OF)}:∀{es:List DictEntry},RepOD P w t cl fs es->fs.lookup x=some m->∃v,getL x es=some (some v)/\RepOF P w t x m v/\P.ok cl x:=by
 induction fs with
 |nil=>exactλ_ e=>ns e
 |cons p r ih=>
  rintro es ⟨e,q,rfl,h1,h2,h3,_,h4⟩ h
  rcases Xq h with⟨rfl,rfl⟩|⟨n,h⟩
  .exact⟨_,Zfq h1,h3,h2⟩
  .exact(ih h4 h).elim λv z=>⟨v,Zco h1 n z.1,z.2⟩
theorem RepOF.handed{P:Px}{m:OF}(r:RepOF P w t x m v):handedIn v=true:=by
 cases m with
 |f m=>exact RepF.handed r
 |l l=>exact RepL.e (G:=λv=>handedIn v=true) r λ_ _ _ _ _ _ _=>rfl
noncomputable def Rd(P:Px)(w:Wd)(o:OV)(v:Value):Prop:=match o with
 | .f m=>RepF P w.Z m v
 | .l l=>∃t x,RepL P w t x l v
 | .o c fs=>∃t,RepO P w t (.o c fs) v
theorem RepO.rd{P:Px}(r:RepO P w t o v):Rd P w o v:=by
 cases o with
 |f m=>exact r
 |l l=>exact⟨t,Zja,r⟩
 |o c fs=>exact⟨t,r⟩
noncomputable def AtV(h:Heap)(v:Value)(x:Str)(u:Value):Prop:=∃a d cl es n,v=.ref a/\h.get? a=some (instObj cl d)/\h.get? d=some (dictOf es n)/\getL x es=some (some u)
theorem Zpo(B:Blk c sc)(I:Iv c w)(r:Rd c.P w o v){o':OV}(h:Ui o x=some o'):
  ∃u,Rd c.P w o' u/\AtV w.s.heap v x u/\∀{expr:Bool} {tk:Nat} {Q:Value->Shared->Prop} {E:Value->Shared->Prop},(∀t,Q u {w.s with toks:=t})->wpAny c.M c.A (getAttr v x expr) Q E {w.s with toks:=tk}:=by
 have k0:=I.hh B.toBeg
 cases o with
 |l l=>exact ns h
 |f m=>
  cases m with
  |obj cl fs=>
   obtain⟨m,hm,rfl⟩:=Option.map_eq_some_iff.mp (show(fs.lookup x).map OV.f=some o' from h)
   refine RepF.obj_e (G:=λv=>∃u,Rd c.P w (.f m) u/\AtV w.s.heap v x u/\∀{expr:Bool} {tk:Nat} {Q:Value->Shared->Prop} {E:Value->Shared->Prop},(∀t,Q u {w.s with toks:=t})->wpAny c.M c.A (getAttr v x expr) Q E {w.s with toks:=tk}) r λa d es n z1 z2 rd=>(rd.look hm).elim λu g=>⟨u,g.2.1,⟨a,d,cl,es,n,rfl,I.zok _ _ z1,I.zok _ _ z2,g.1⟩,λq=>Zlu B.toBase k0 (I.zok _ _ z1) (I.zok _ _ z2) g.1 g.2.1.handed g.2.2 q⟩
  |_=>exact ns h
 |o cl fs=>
  obtain⟨m,hm,rfl⟩:=Option.map_eq_some_iff.mp (show(fs.lookup x).map OF.ov=some o' from h)
  refine r.elim λt r=>r.o_e (G:=λv=>∃u,Rd c.P w m.ov u/\AtV w.s.heap v x u/\∀{expr:Bool} {tk:Nat} {Q:Value->Shared->Prop} {E:Value->Shared->Prop},(∀t,Q u {w.s with toks:=t})->wpAny c.M c.A (getAttr v x expr) Q E {w.s with toks:=tk}) λa d es n _ _ z1 z2 rd=>(rd.look hm).elim λu g=>⟨u,?_,⟨a,d,cl,es,n,rfl,z1,z2,g.1⟩,λq=>Zlu B.toBase k0 z1 z2 g.1 g.2.1.handed g.2.2 q⟩
  cases m with
  |f m=>exact g.2.1
  |l l=>exact⟨t,some x,g.2.1⟩
end
end
section
open PySem.Calls
set_option genCtorIdx true in
inductive Pa
 |v (i:Nat)|g (j:Nat)|fd (p:Pa) (a:Str)
inductive Bd
 |n (i:Nat)|t (is:List Nat)
inductive CE
 |bad|nil|cons (a r:CE)
 |k (m:MV)|rd (p:Pa)|sat (e:CE) (a:Str)
 |bin (op:Operator) (a b:CE)|not (a:CE)|neg (a:CE)|and (a b:CE)|or (a b:CE)|ife (c a b:CE)
 |cmp (a t:CE)|c1 (op:CmpOp) (e:CE)|cp (op:CmpOp) (p:Pa)|c2 (op:CmpOp) (e t:CE)
 |tup (es:CE)|lst (es:CE)|so (e:CE)
 |sub (p:Pa) (i:CE)|subE (e i:CE)|sl (p:Pa) (lo hi:CE)|slE (e lo hi:CE)
 |comp (elt:CE) (t:Bd) (it c:CE) (fv:List Nat) (k:Nat)
 |bi (b:String) (es:CE)|lenP (p:Pa)|lenE (e:CE)|ty (t:String) (es:CE)
 |fn (a:Nat) (es:CE)|cls (a i:Nat) (es:CE)|fnv (i:Nat) (es:CE)
 |lend (i:Nat) (r:CE)|mv (i:Nat) (r:CE)|mve (e r:CE)
 |meth (i:Nat) (a:Str) (c f:Nat) (es:CE)
 |app (p:Pa) (e:CE)|pop (p:Pa)|get (p:Pa) (es:CE)|lit (l:List (MV×MV)) (es:CE)
 |itc (t:String) (es:CE)|ite (e:CE)
 |ex (e:CE)|pass|cont|ret (e:CE)|as (t e:CE)|asN (i:Nat) (a:Str) (j:Nat)|asT (ts es:CE)|asX (is:List Nat) (es:CE)
 |tn (i:Nat)|tf (i:Nat) (a:Str)|tt (is:List Nat)
 |ifs (c a b:CE)|whl (c b:CE)|each (t:Bd) (it b:CE)
noncomputable def cl:List CE->CE
 | []=>.nil
 |a::r=>.cons a (cl r)
noncomputable def onS{α:Type}(K:α->Prop):Option α->Prop
 |some a=>K a
 |none=>False
noncomputable def onB(A B:Prop):Bool->Prop
 |true=>A
 |false=>B
noncomputable def bOf(K:Bool->Prop):OV->Prop
 | .f (.bool b)=>K b
 |_=>False
noncomputable def iOf(K:Int->Prop):OV->Prop
 | .f (.int b)=>K b
 |_=>False
noncomputable def Zdi(K:MV->Prop):OV->Prop
 | .f m=>K m
 | .l vs=>K (.lst vs)
 | .o c fs=>K (OV.frz (.o c fs))
noncomputable def Znq:List OV->(List MV->Prop)->Prop
 | [],K=>K []
 |v::r,K=>Zdi (λm=>Znq r λms=>K (m::ms)) v
noncomputable def stK:Sg->(Sg->Prop)->Prop
 | [],K=>K []
 |o::r,K=>stK r λr=>K (o::r)
noncomputable def kn(o:Option (Option OV)):Option OV:=match o with
 |some o=>o
 |none=>none
noncomputable def pk:Pa->Sg->Option OV
 | .v i,σ=>kn (nth σ i)
 | .g j,_=>(nth Xw j).map λp=>.f p.2
 | .fd p a,σ=>(pk p σ).bind (Ui · a)
noncomputable def Zzm(a:Str)(v w:OV):Option OV:=match w with
 | .o c fs=>(match v with| .l vs=>some (.o c (Zlx a (.l vs) fs))| .f m=>some (.o c (Zlx a (.f m) fs))| .o _ _=>none)
 |_=>none
noncomputable def Ziz(σ:Sg)(v:OV)(i:Nat)(a:Str):Option Sg:=(kn (nth σ i)).bind λw=>(Zzm a v w).map λu=>put σ i (some u)
noncomputable def Zez(σ:Sg)(v:OV):Pa->Option Sg
 | .v i=>(kn (nth σ i)).map λ_=>put σ i (some v)
 | .fd p a=>(match p with| .v i=>Ziz σ v i a|_=>none)
 |_=>none
noncomputable def rdP(p:Pa)(σ:Sg)(Q:OV->Sg->Prop):Prop:=match pk p σ with
 |some (.f m)=>Q (.f m) σ
 |some v=>Zdi (λm=>onS (λσ=>stK σ (Q (.f m))) (Zez σ (.f m) p)) v
 |none=>False
noncomputable def Zdd(σ:Sg):List (Option Nat)->List (Option OV)->Sg
 | [],_=>σ
 |l::r,outs=>match outs with
  | []=>σ
  |o::q=>Zdd (match l with|some i=>put σ i o|none=>σ) r q
termination_by structural x=>x
noncomputable def Zie:List Nat->List MV->Sg->Option Sg
 | [],ms,σ=>(match ms with| []=>some σ|_=>none)
 |i::r,ms,σ=>(match ms with|m::ms=>Zie r ms (put σ i (some (.f m)))| []=>none)
noncomputable def ZNw:MV->Option (List MV)
 | .tup l=>some l
 |_=>none
noncomputable def Zfy(t:Bd)(m:MV)(σ:Sg):Option Sg:=match t with
 | .n i=>some (put σ i (some (.f m)))
 | .t is=>(ZNw m).bind λms=>Zie is ms σ
noncomputable def Zst(σ:Sg):List Nat->Sg
 | []=>σ
 |i::r=>Zst (match kn (nth σ i)with|some v=>put σ i (some (.f v.frz))|none=>σ) r
noncomputable def Zvq:List Nat->List OV->Sg->Option Sg
 | [],vs,σ=>(match vs with| []=>some σ|_=>none)
 |i::r,vs,σ=>(match vs with|v::vs=>Zvq r vs (put σ i (some v))| []=>none)
structure ZHd(c:Cx)(n:Nat):Prop where
 handled:c.A.handled=none
 frames:c.A.frames=some c.l
 depth:c.A.depth+2*n+10 < recursionLimit
 units:c.A.units+20*n+100 < cLine
structure Pre(c:Cx)(w:Wd):Prop where
 h0:∀a o,c.h₀.get? a=some o->w.Z a=some o
 zok:∀a o,w.Z a=some o->w.s.heap.get? a=some o
 wz:∀a,w.W a≠none->w.Z a=none/\∃o,w.s.heap.get? a=some o
 fl:∀a∈c.FL,w.Z a=none/\w.W a=none
 frs:Frs w.s.heap c.l
 gens:w.s.gens=#[]
structure Thrown(c:Cx)(w:Wd)(s':Shared)(e:Addr):Prop where
 kept:∀a o,w.s.heap.get? a=some o->w.W a=none->s'.heap.get? a=some o\/(a∈c.FL/\∃sl,s'.heap.get? a=some {o with slots:=sl})
 gens:s'.gens=w.s.gens
 os:s'.os=w.s.os
 fly:∃B a0,(∀b o,w.s.heap.get? b=some o->w.W b=none->b ∉ c.FL->B.get? b=some o)/\Heap.FlyingW B c.l e (.ref c.bad) a0 s'.heap
noncomputable def ZPh(P:Px)(w:Wd)(os:List (Option OV))(vs:List Value):Prop:=∀j o,nth os j=some (some o)->∃v,nth vs j=some v/\RepO P w (2*j) o v
structure CallP(N:Nat)(E:Prop)(a:Nat)(vals:List OV)(K:OV->List (Option OV)->Prop):Prop where
 h:∀c,Base c->ZHd c N->∀w vs,Pre c w->vs.length=vals.length->ZPh c.P w (vals.map some) vs->∀R:Result->Shared->Prop,
  (∀o outs u w',K o outs->Stp c (λ_=>True) w w'->RepO c.P w' 1 o u->ZPh c.P w' outs vs->R (.ok (.ret u)) w'.s)->(E->∀e s',Thrown c w s' e->R (.error (.ref e)) s')->codeAny c.M c.A (.call (.ref a) ⟨vs,[]⟩) R w.s
noncomputable def fgt:Sg->Sg->Sg
 | [],_=>[]
 |a::r,s=>(match s with| []=>[]|b::q=>(match a with|none=>none|some _=>b)::fgt r q)
structure ForP(bind:MV->Sg->Option Sg)(body:Sg->(Fl->Sg->Prop)->Prop)(ms:List MV)(σ:Sg)(Q:Fl->Sg->Prop):Prop where
 h:∃I:Nat->Sg->Prop,I 0 σ/\(∀k m,ms[k]?=some m->∀σ',I k σ'->onS (λσ'=>stK σ' λσ'=>body σ' λt σ'=>match t with| .ret v=>Q (.ret v) σ'|_=>stK (fgt σ σ') (I (k+1))) (bind m σ'))/\∀σ',I ms.length σ'->Q .next σ'
structure WhileP(test:Sg->(Bool->Sg->Prop)->Prop)(body:Sg->(Fl->Sg->Prop)->Prop)(σ:Sg)(Q:Fl->Sg->Prop):Prop where
 h:∃(I:Nat->Sg->Prop) (k:Nat),k < rounds/\I k σ/\∀k σ',I k σ'->test σ' λb σ'=>(b=false->Q .next σ')/\(b=true->∃k',k=k'+1/\body σ' λt σ'=>match t with| .ret v=>Q (.ret v) σ'|_=>stK (fgt σ σ') (I k'))
noncomputable def ZOf(step:MV->Option MV->Prop):List MV->List (Option MV)->Prop
 | [],rs=>rs=[]
 |m::ms,rs=>∃r q,rs=r::q/\step m r/\ZOf step ms q
structure CompP(bind:MV->Sg->Option Sg)(cond:Sg->(Bool->Sg->Prop)->Prop)(elt:Sg->(OV->Sg->Prop)->Prop)(ms:List MV)(σ:Sg)(K:List MV->Prop):Prop where
 h:∃rs,ZOf (λm r=>onS (λσ=>stK σ λσ=>cond σ λb σ=>onB (elt σ λv _=>r=some v.frz) (r=none) b) (bind m σ)) ms rs/\K (rs.filterMap id)
structure Mg where
 e:Prop->Sg->(OV->Sg->Prop)->Prop:=λ_ _ _=>False
 c:Prop->MV->Sg->(OV->Sg->Prop)->Prop:=λ_ _ _ _=>False
 l:Prop->Sg->(List OV->Sg->Prop)->Prop:=λ_ _ _=>False
 o:Prop->Sg->(Option Int->Sg->Prop)->Prop:=λ_ _ _=>False
 b:Sg->(Bool->Sg->Prop)->Prop:=λ_ _=>False
 a:Prop->Sg->(List OV->List (Option Nat)->Sg->Prop)->Prop:=λ_ _ _=>False
 i:Prop->Sg->(List MV->Sg->Prop)->Prop:=λ_ _ _=>False
 s:Prop->Sg->(Fl->Sg->Prop)->Prop:=λ_ _ _=>False
 g:OV->Prop->Sg->(Sg->Prop)->Prop:=λ_ _ _ _=>False
 gs:List OV->Prop->Sg->(Sg->Prop)->Prop:=λ_ _ _ _=>False
noncomputable def ZOt(i:Nat)(a:Str)(v:OV)(σ:Sg)(K:Sg->Prop):Prop:=onS (λw=>match w with| .o c fs=>onB (onS (λσ=>stK σ K) (Ziz σ (match v with| .o c fs=>.f (OV.frz (.o c fs))|v=>v) i a)) False (TT.plain c a&&decide (fs.length < 100))|_=>False) (kn (nth σ i))
noncomputable def ZJq(i:Nat)(a:Str)(c:Nat)(σ:Sg)(K:OV->Prop):Prop:=onS (λw=>match w with| .f m=>(match m with| .obj c' fs=>onB (onB (K (.f (.obj c' fs))) False (fs.lookup a).isNone) False (Nat.beq c' c)|_=>False)| .o c' fs=>onB (onB (K (.o c' fs)) False (fs.lookup a).isNone) False (Nat.beq c' c)|_=>False) (kn (nth σ i))
noncomputable def ZEe(v:OV)(outs:List (Option OV))(K:OV->List (Option OV)->Prop):Prop:=match v with
 | .f m=>(match m with| .none=>(match outs with|o::r=>onS (λself=>K self r) o| []=>False)|_=>False)
 |_=>False
noncomputable def Znj:OV->Bool
 | .f _=>true
 |_=>false
noncomputable def ZEz:OV->Bool
 | .l _=>true
 |_=>false
section
variable(R T:Mg)(E:Prop)(Q:OV->Sg->Prop)(QL:List OV->Sg->Prop)(QA:List OV->List (Option Nat)->Sg->Prop)(QF:Fl->Sg->Prop)(op:Operator)(co:CmpOp)(p:Pa)(N a i:Nat)(K:Sg->Prop)
noncomputable def kLd(v:OV)(vs:List OV)(σ:Sg):Prop:=QL (v::vs) σ
noncomputable def kLc(v:OV)(σ:Sg):Prop:=R.l E σ (kLd QL v)
noncomputable def kAd(v:OV)(vs:List OV)(ls:List (Option Nat))(σ:Sg):Prop:=QA (v::vs) (none::ls) σ
noncomputable def kAc(v:OV)(σ:Sg):Prop:=Zdi (λm=>R.a E σ (kAd QA (.f m))) v
noncomputable def kAe(v:OV)(σ:Sg):Prop:=R.a E σ (kAd QA v)
noncomputable def kLe(vs:List OV)(ls:List (Option Nat))(σ:Sg):Prop:=onS (λv=>stK (put σ i none) λσ=>QA (v::vs) (some i::ls) σ) (kn (nth σ i))
noncomputable def sq(t:Fl)(σ:Sg):Prop:=match t with
 | .next=>R.s E σ QF
 |t=>QF t σ
noncomputable def kGc(vs:List OV)(σ:Sg):Prop:=R.gs vs E σ K
noncomputable def ZXy(x:Str)(v:OV)(σ:Sg):Prop:=Zdi (λm=>onS (λo=>Q o σ) (Ui (.f m) x)) v
noncomputable def kB2(x y:OV)(σ:Sg):Prop:=Zdi (λx=>Zdi (λy=>onS (λo=>Q o σ) (Zcs op x y)) y) x
noncomputable def kB1(x:OV)(σ:Sg):Prop:=R.e E σ (kB2 Q op x)
noncomputable def ZYe(v:OV)(σ:Sg):Prop:=bOf (λb=>Q (.f (.bool !b)) σ) v
noncomputable def ZYf(v:OV)(σ:Sg):Prop:=iOf (λb=>Q (.f (.int (-b))) σ) v
noncomputable def ZTz(v:OV)(σ:Sg):Prop:=bOf (onB (R.e E σ Q) (Q (.f (.bool false)) σ)) v
noncomputable def kOr(v:OV)(σ:Sg):Prop:=bOf (onB (Q (.f (.bool true)) σ) (R.e E σ Q)) v
noncomputable def kSo(QO:Option Int->Sg->Prop)(v:OV)(σ:Sg):Prop:=iOf (λi=>QO (some i) σ) v
noncomputable def kSb(QB:Bool->Sg->Prop)(v:OV)(σ:Sg):Prop:=bOf (λi=>QB i σ) v
noncomputable def ZYk(v:OV)(σ:Sg):Prop:=bOf (onB (R.e E σ Q) (T.e E σ Q)) v
noncomputable def ZRo(v:OV)(σ:Sg):Prop:=bOf (onB (R.s E σ QF) (T.s E σ QF)) v
noncomputable def ZYm(x:OV)(σ:Sg):Prop:=Zdi (λm=>R.c E m σ Q) x
noncomputable def kC1(m:MV)(y:OV)(σ:Sg):Prop:=onS (λb=>Q (.f (.bool b)) σ) (Ym co m y)
noncomputable def kC2(m:MV)(y:OV)(σ:Sg):Prop:=Zdi (λy=>onS (onB (R.c E y σ Q) (Q (.f (.bool false)) σ)) (Ym co m (.f y))) y
noncomputable def ZXt(vs:List OV)(σ:Sg):Prop:=Znq vs λms=>Q (.f (.tup ms)) σ
noncomputable def ZYg(vs:List OV)(σ:Sg):Prop:=Znq vs λms=>Q (.l ms) σ
noncomputable def ZXu(k:OV)(σ:Sg):Prop:=Zdi (λk=>onS (λw=>onS (λm=>Q (.f m) σ) (getItem w k)) (pk p σ)) k
noncomputable def ZXv(v:OV)(k:OV)(σ:Sg):Prop:=Zdi (λk=>Zdi (λm=>onS (λw=>onS (λw=>onS (λσ=>stK σ K) (Zez σ w p)) (Zgz w k m)) (pk p σ)) v) k
noncomputable def ZYc(w k:OV)(σ:Sg):Prop:=Zdi (λw=>Zdi (λk=>onS (λm=>Q (.f m) σ) (getItem (.f w) k)) k) w
noncomputable def ZYd(w:OV)(σ:Sg):Prop:=R.e E σ (ZYc Q w)
noncomputable def ZXw(lo hi:Option Int)(σ:Sg):Prop:=onS (λw=>onS (λo=>Q o σ) (Zbl w lo hi)) (pk p σ)
noncomputable def ZXx(lo:Option Int)(σ:Sg):Prop:=R.o E σ (ZXw Q p lo)
noncomputable def ZXz(w:OV)(lo hi:Option Int)(σ:Sg):Prop:=Zdi (λw=>onS (λo=>Q o σ) (Zbl (.f w) lo hi)) w
noncomputable def ZYa(w:OV)(lo:Option Int)(σ:Sg):Prop:=R.o E σ (ZXz Q w lo)
noncomputable def ZYb(w:OV)(σ:Sg):Prop:=R.o E σ (ZYa T E Q w)
noncomputable def ZYl(t:Bd)(fv:List Nat)(k:Nat)(ms:List MV)(σ:Sg):Prop:=stK (Zst σ fv) λσ=>CompP (Zfy t) R.b (T.e False) ms (fv.map (λi=>kn (nth σ i))++List.replicate k none) λl=>Q (.l l) σ
noncomputable def kBi(b:String)(vs:List OV)(σ:Sg):Prop:=Znq vs λms=>onS (λo=>Q o σ) (builtin b ms)
noncomputable def ZYh(v:OV)(σ:Sg):Prop:=Zdi (λm=>onS (λo=>Q o σ) (Zng m)) v
noncomputable def kTy(b:String)(vs:List OV)(σ:Sg):Prop:=Znq vs λms=>onS (λo=>Q o σ) (Qo b ms)
noncomputable def kBk(σ:Sg)(ls:List (Option Nat))(v:OV)(outs:List (Option OV)):Prop:=stK (Zdd σ ls outs) (Q v)
noncomputable def kFn(vs:List OV)(ls:List (Option Nat))(σ:Sg):Prop:=CallP N E a vs (kBk Q σ ls)
noncomputable def kMk(σ:Sg)(ls:List (Option Nat))(v:OV)(outs:List (Option OV)):Prop:=ZEe v outs (kBk Q σ ls)
noncomputable def ZYn(vs:List OV)(ls:List (Option Nat))(σ:Sg):Prop:=CallP N E i (.o a []::vs) (kMk Q σ ls)
noncomputable def kMB(self:OV)(σ:Sg)(ls:List (Option Nat))(v:OV)(outs:List (Option OV)):Prop:=onB (stK (Zdd σ (none::ls) outs) (Q v)) (stK (Zdd (put σ i none) (some i::ls) outs) (Q v)) (Znj self)
noncomputable def kMe(x:Str)(c:Nat)(vs:List OV)(ls:List (Option Nat))(σ:Sg):Prop:=ZJq i x c σ λself=>CallP N E a (self::vs) (kMB Q i self σ ls)
noncomputable def kAp(v:OV)(σ:Sg):Prop:=Zdi (λm=>onS (λw=>match w with| .l vs=>onB (onS (λσ=>stK σ (Q (.f .none))) (Zez σ (.l (vs++[m])) p)) False (decide (vs.length < Zb))|_=>False) (pk p σ)) v
noncomputable def ZTy(l:List (MV×MV))(vs:List OV)(σ:Sg):Prop:=onS (λo=>Q o σ) (Zfr l vs)
noncomputable def ZYj(t:String)(QI:List MV->Sg->Prop)(vs:List OV)(σ:Sg):Prop:=Znq vs λms=>onS (λms=>QI ms σ) (Xj t ms)
noncomputable def ZYi(QI:List MV->Sg->Prop)(v:OV)(σ:Sg):Prop:=Zdi (λm=>onS (λms=>QI ms σ) (items m)) v
noncomputable def kEx(v:OV)(σ:Sg):Prop:=QF .next σ
noncomputable def kRt(v:OV)(σ:Sg):Prop:=QF (.ret v) σ
noncomputable def kAs(v:OV)(σ:Sg):Prop:=R.g v E σ (QF .next)
noncomputable def kAT(vs:List OV)(σ:Sg):Prop:=R.gs vs E σ (QF .next)
noncomputable def kAX(is:List Nat)(vs:List OV)(σ:Sg):Prop:=onS (λσ=>stK σ (QF .next)) (Zvq is vs.reverse σ)
noncomputable def kEa(t:Bd)(ms:List MV)(σ:Sg):Prop:=ForP (Zfy t) (R.s E) ms σ QF
end
noncomputable def mg(N:Nat):CE->Mg
 | .bad=>{}
 | .nil=>{l:=λ_ σ Q=>Q [] σ,o:=λ_ σ Q=>Q none σ,b:=λσ Q=>Q true σ,a:=λ_ σ Q=>Q [] [] σ,s:=λ_ σ Q=>Q .next σ,gs:=λvs _ σ K=>match vs with| []=>K σ|_=>False}
 | .cons x r=>{
   l:=λE σ Q=>(mg N x).e E σ (kLc (mg N r) E Q)
   a:=λE σ Q=>(mg N x).e E σ (kAc (mg N r) E Q)
   s:=λE σ Q=>(mg N x).s E σ (sq (mg N r) E Q)
   gs:=λvs E σ K=>match vs with|v::vs=>(mg N x).g v E σ (kGc (mg N r) E K vs)| []=>False}
 | .k m=>{e:=λ_ σ Q=>Q (.f m) σ}
 | .rd p=>{e:=λ_ σ Q=>rdP p σ Q}
 | .tn i=>{g:=λv _ σ K=>stK (put σ i (some v)) K}
 | .tf i a=>{g:=λv _ σ K=>ZOt i a v σ K}
 | .tt is=>{g:=λv _ σ K=>Zdi (λm=>onS (λσ=>stK σ K) (Zfy (.t is) m σ)) v}
 | .sat e a=>{e:=λE σ Q=>(mg N e).e E σ (ZXy Q a)}
 | .bin op a b=>{e:=λE σ Q=>(mg N a).e E σ (kB1 (mg N b) E Q op)}
 | .not a=>{e:=λE σ Q=>(mg N a).e E σ (ZYe Q)}
 | .neg a=>{e:=λE σ Q=>(mg N a).e E σ (ZYf Q)}
 | .and a b=>{e:=λE σ Q=>(mg N a).e E σ (ZTz (mg N b) E Q)}
 | .or a b=>{e:=λE σ Q=>(mg N a).e E σ (kOr (mg N b) E Q)}
 | .so e=>{
   o:=λE σ Q=>(mg N e).e E σ (kSo Q)
   b:=λσ Q=>(mg N e).e False σ (kSb Q)}
 | .ife c a b=>{e:=λE σ Q=>(mg N c).e E σ (ZYk (mg N a) (mg N b) E Q)}
 | .cmp a t=>{e:=λE σ Q=>(mg N a).e E σ (ZYm (mg N t) E Q)}
 | .c1 op e=>{c:=λE m σ Q=>(mg N e).e E σ (kC1 Q op m)}
 | .cp op p=>{c:=λE m σ Q=>onS (λy=>onS (λb=>Q (.f (.bool b)) σ) (Ym op m y)) (pk p σ)}
 | .c2 op e t=>{c:=λE m σ Q=>(mg N e).e E σ (kC2 (mg N t) E Q op m)}
 | .tup es=>{e:=λE σ Q=>(mg N es).l E σ (ZXt Q)}
 | .lst es=>{e:=λE σ Q=>(mg N es).l E σ (ZYg Q)}
 | .sub p i=>{
   e:=λE σ Q=>onS (λ_=>(mg N i).e E σ (ZXu Q p)) (pk p σ)
   g:=λv E σ K=>onS (λ_=>(mg N i).e E σ (ZXv p K v)) (pk p σ)}
 | .subE e i=>{e:=λE σ Q=>(mg N e).e E σ (ZYd (mg N i) E Q)}
 | .sl p lo hi=>{e:=λE σ Q=>onS (λ_=>(mg N lo).o E σ (ZXx (mg N hi) E Q p)) (pk p σ)}
 | .slE e lo hi=>{e:=λE σ Q=>(mg N e).e E σ (ZYb (mg N lo) (mg N hi) E Q)}
 | .comp elt t it c fv k=>{e:=λE σ Q=>(mg N it).i E σ (ZYl (mg N c) (mg N elt) Q t fv k)}
 | .bi b es=>{e:=λE σ Q=>(mg N es).l E σ (kBi Q b)}
 | .lenP p=>{e:=λE σ Q=>onS (λv=>Zdi (λm=>onS (λo=>Q o σ) (Zng m)) v) (pk p σ)}
 | .lenE e=>{e:=λE σ Q=>(mg N e).e E σ (ZYh Q)}
 | .ty t es=>{e:=λE σ Q=>(mg N es).l E σ (kTy Q t)}
 | .fn a es=>{e:=λE σ Q=>(mg N es).a E σ (kFn E Q N a)}
 | .cls a i es=>{e:=λE σ Q=>(mg N es).a E σ (ZYn E Q N a i)}
 | .fnv i es=>{e:=λE σ Q=>onS (λw=>match w with| .f m=>onS (λv=>match v with| .ref a=>onB ((mg N es).a E σ (kFn E Q N a)) False (TT.fn a).isSome|_=>False) (ZNc m)|_=>False) (kn (nth σ i))}
 | .lend i r=>{a:=λE σ Q=>onS (λw=>onB ((mg N r).a E σ (kAd Q w)) ((mg N r).a E σ (kLe Q i)) (Znj w)) (kn (nth σ i))}
 | .mv i r=>{a:=λE σ Q=>onS (λw=>onB ((mg N r).a E σ (kAd Q w)) (stK (put σ i none) λσ=>(mg N r).a E σ (kAd Q w)) (Znj w)) (kn (nth σ i))}
 | .mve e r=>{a:=λE σ Q=>(mg N e).e E σ (kAe (mg N r) E Q)}
 | .meth i a c f es=>{e:=λE σ Q=>ZJq i a c σ λ_=>(mg N es).a E σ (kMe E Q N f i a c)}
 | .app p e=>{e:=λE σ Q=>onS (λw=>onB ((mg N e).e E σ (kAp Q p)) False (ZEz w)) (pk p σ)}
 | .pop p=>{e:=λE σ Q=>onS (λw=>match w with| .l vs=>onS (λv=>onS (λσ=>stK σ (Q (.f v))) (Zez σ (.l vs.dropLast) p)) vs.getLast?|_=>False) (pk p σ)}
 | .get p es=>{e:=λE σ Q=>onS (λw=>match w with| .f m=>(match m with| .dct l=>(mg N es).l E σ (ZTy Q l)|_=>False)|_=>False) (pk p σ)}
 | .lit l es=>{e:=λE σ Q=>(mg N es).l E σ (ZTy Q l)}
 | .itc t es=>{i:=λE σ Q=>(mg N es).l E σ (ZYj t Q)}
 | .ite e=>{i:=λE σ Q=>(mg N e).e E σ (ZYi Q)}
 | .ex e=>{s:=λE σ Q=>(mg N e).e E σ (kEx Q)}
 | .pass=>{s:=λE σ Q=>Q .next σ}
 | .cont=>{s:=λE σ Q=>Q .cont σ}
 | .ret e=>{s:=λE σ Q=>(mg N e).e E σ (kRt Q)}
 | .as t e=>{s:=λE σ Q=>(mg N e).e E σ (kAs (mg N t) E Q)}
 | .asN i a j=>{s:=λE σ Q=>onS (λw=>match w with| .f m=>ZOt i a (.f m) σ (Q .next)| .l vs=>stK (put σ j none) λσ=>ZOt i a (.l vs) σ (Q .next)| .o _ _=>False) (kn (nth σ j))}
 | .asT ts es=>{s:=λE σ Q=>(mg N es).l E σ (kAT (mg N ts) E Q)}
 | .asX is es=>{s:=λE σ Q=>(mg N es).l E σ (kAX Q is)}
 | .ifs c a b=>{s:=λE σ Q=>(mg N c).e E σ (ZRo (mg N a) (mg N b) E Q)}
 | .whl c b=>{s:=λE σ Q=>WhileP (λσ K=>(mg N c).e E σ (kSb K)) ((mg N b).s E) σ Q}
 | .each t it b=>{s:=λE σ Q=>(mg N it).i E σ (kEa (mg N b) E Q t)}
noncomputable abbrev wSs(N:Nat)(c:CE)(E:Prop)(σ:Sg)(Q:Fl->Sg->Prop):Prop:=(mg N c).s E σ Q
end
section
open PySem.Calls
section
variable{P:Px}{Z:Zf}{m n:MV}{a b:Value}
theorem Zcw{i:Int}(h:Jr m=some i):m=.int i:=by
 cases m with
 |int j=>exact congrArg MV.int (Option.some.inj h)
 |_=>exact ns h
theorem Zjz{i:Str}(h:Zii m=some i):m=.str i:=by
 cases m with
 |str j=>exact congrArg MV.str (Option.some.inj h)
 |_=>exact ns h
theorem Zgb{i:List MV}(h:Zcv m=some i):m=.lst i:=by
 cases m with
 |lst j=>exact congrArg MV.lst (Option.some.inj h)
 |_=>exact ns h
theorem Znd{α:Type}{l:List MV}{k:MV->Option α}{r:α}(h:Zhc l k=some r):∃m,l=[m]/\k m=some r:=by
 match l,h with
 | [m],h=>exact⟨m,rfl,h⟩
theorem Zh{α β:Type}{o:Option α}{f:α->Option β}{r:β}{G:Prop}(h:o.bind f=some r)(k:∀x,o=some x->f x=some r->G):G:=by
 cases o with
 |none=>exact ns h
 |some x=>exact k x rfl h
theorem Zp{α β:Type}{o:Option α}{f:α->β}{r:β}{G:Prop}(h:o.map f=some r)(k:∀x,o=some x->f x=r->G):G:=by
 cases o with
 |none=>exact ns h
 |some x=>exact k x rfl (Option.some.inj h)
theorem Zfo{α:Type}{f:Int->Option α}{r:α}{G:Value->Prop}(h:(Jr n).bind f=some r)(x:RepF P Z n b)(k:∀y t,f y=some r->G (.int y t)):G b:=
 Zh h λy e h=>(Zcw e▸x:RepF P Z (.int y) b).int_e λt=>k y t h
theorem ZIw{α:Type}{f:Str->Option α}{r:α}{G:Value->Prop}(h:(Zii n).bind f=some r)(x:RepF P Z n b)(k:∀y t,f y=some r->G (.str y t)):G b:=
 Zh h λy e h=>(Zjz e▸x:RepF P Z (.str y) b).str_e λt=>k y t h
theorem ZEh{α:Type}{f:List MV->Option α}{r:α}{G:Value->Prop}(h:(Zcv n).bind f=some r)(x:RepF P Z n b)(k:∀y,f y=some r->∀a vs n,Z a=some (Zaj vs n)->RepFs P Z y vs->y.length<=Zb->G (.ref a)):G b:=
 Zh h λy e h=>(Zgb e▸x:RepF P Z (.lst y) b).lst_e (k y h)
theorem Zlq{α:Type}{f:Int->Int->Option α}{r:α}{G:Value->Value->Prop}(h:Qa f m n=some r)(x:RepF P Z m a)(y:RepF P Z n b)(k:∀x y t u,f x y=some r->G (.int x t) (.int y u)):G a b:=
 Zfo (G:=λa=>G a b) h x λi t h=>Zfo (G:=G (.int i t)) h y λj u h=>k i j t u h
theorem Zak{p:Prop}[Decidable p]{α:Type}{x y:α}(h:(if p then some x else none)=some y):p/\x=y:=by
 by_cases q:p
 .rw[if_pos q]at h;exact⟨q,Option.some.inj h⟩
 .rw[if_neg q]at h;exact ns h
theorem Zct{b:Bool}{α:Type}{x:Option α}{y:α}(h:(bif b then x else none)=some y):b=true/\x=some y:=by
 cases b
 .exact ns h
 .exact⟨rfl,h⟩
theorem Zdh{p:Prop}[Decidable p]{α:Type}{x:Option α}{y:α}(h:(if p then none else x)=some y):¬p/\x=some y:=by
 by_cases q:p
 .rw[if_pos q]at h;exact ns h
 .rw[if_neg q]at h;exact⟨q,h⟩
theorem Zvs{α:Type}(x:α)(n:Nat):List.foldl (λx1 x2:Array α=>x1++x2) #[] (List.replicate n #[x])=(List.replicate n x).toArray:=by
 have key:∀l:List α,List.foldl (λx1 x2:Array α=>x1++x2) l.toArray (List.replicate n #[x])=(l++List.replicate n x).toArray:=by
  induction n with
  |zero=>intro l;simp
  |succ n ih=>
   intro l
   rw[List.replicate_succ,List.foldl_cons,show l.toArray++#[x]=(l++[x]).toArray by simp,ih,List.append_assoc]
   rfl
 exact key []
theorem RepFs.replicate(r:RepF P Z m a)(n:Nat):RepFs P Z (List.replicate n m) (List.replicate n a):=by
 induction n with
 |zero=>exact rfl
 |succ n ih=>exact .cons r ih
end
section
variable{c:Cx}{w:Wd}{σ:Sg}{Γ:List En}{m n:MV}{a b:Value}{r:OV}{Q:Value->Shared->Prop}{E:Value->Shared->Prop}
theorem ten:(10000:Nat)<=sizeLine:=by decide
theorem Inv.int(B:Beg c)(I:Inv c w σ Γ)(H:∀w' v,Inv c w' σ (.o r v::Γ)->Q v w'.s){i:Int}(e:Zgc i=some r)(tk tk':Nat):Q (.int i tk) {w.s with toks:=tk'}:=by
 cases e
 exact H _ _ ((I.tok B tk').put ⟨tk,rfl⟩)
theorem Inv.str(B:Beg c)(I:Inv c w σ Γ)(H:∀w' v,Inv c w' σ (.o r v::Γ)->Q v w'.s){i:Str}(e:OV.f (.str i)=r)(tk tk':Nat):Q (.str i tk) {w.s with toks:=tk'}:=by
 subst e
 exact H _ _ ((I.tok B tk').put ⟨tk,rfl⟩)
theorem Inv.list(B:Beg c)(I:Inv c w σ Γ)(H:∀w' v,Inv c w' σ (.o r v::Γ)->Q v w'.s){l:List MV}{vs:List Value}(e:OV.l l=r)(x:RepFs c.P w.Z l vs)(hl:l.length<=Zb)(n tk:Nat):Q (.ref w.s.heap.objs.size) {w.s with heap:=w.s.heap.push (Zaj vs n),toks:=tk}:=by
 subst e
 exact H _ _ (I.newlist B (λ_ _ e=>e) tk n x hl)
theorem ZUi{k:Int}(h:k.natAbs < 2 ^ 60):Builtin.Int.intBits k<=64:=
 have e:k.natAbs < 2 ^ 64:=Nat.lt_trans h (by decide)
 intBits_le_64 (Int.neg_lt_of_neg_lt (Int.lt_of_le_of_lt (Int.natAbs_neg k▸Int.le_natAbs) (Int.ofNat_lt.mpr e))) (Int.lt_of_le_of_lt Int.le_natAbs (Int.ofNat_lt.mpr e))
theorem ZYr{i:Int}(h0:0<=i)(h:i<=10000):¬(!Builtin.List.listFitsIndex i)=true:=by
 rw[show Builtin.List.listFitsIndex i=true from(Bool.and_eq_true _ _).mpr ⟨decide_eq_true (Int.le_trans (by decide) h0),decide_eq_true (Int.lt_of_le_of_lt h (by decide))⟩]
 exact Bool.noConfusion
theorem ZOg(B:Beg c)(I:Inv c w σ Γ)(x:RepF c.P w.Z m a)(y:RepF c.P w.Z n b)(h:ZOh m n=some r)(H:∀w' v,Inv c w' σ (.o r v::Γ)->Q v w'.s):wpAny c.M c.A (binaryOp .Add a b) Q E w.s:=by
 have G:=I.iv.zok
 cases m with
 |int i=>exact x.int_e (G:=λa=>wpAny c.M c.A (binaryOp .Add a b) Q E w.s) λt=>Zfo (G:=λb=>wpAny c.M c.A (binaryOp .Add (.int i t) b) Q E w.s) h y λj u h=>wpAny_add_int (I.int B H h _ _)
 |str i=>
  refine x.str_e (G:=λa=>wpAny c.M c.A (binaryOp .Add a b) Q E w.s) λt=>ZIw (G:=λb=>wpAny c.M c.A (binaryOp .Add (.str i t) b) Q E w.s) h y λj u h=>?_
  have q:=Zak h
  exact PyProof.Rows.add_str (λtk tk'=>I.str B H q.2 tk tk') (Nat.le_trans q.1 ten)
 |lst l=>
  refine x.lst_e (G:=λa=>wpAny c.M c.A (binaryOp .Add a b) Q E w.s) λp vs k z xs hx=>ZEh (G:=λb=>wpAny c.M c.A (binaryOp .Add (.ref p) b) Q E w.s) h y λl' h p' vs' k' z' ys hy=>?_
  have q:=Zak h
  have e:(vs++vs').length<=10000:=by rw[List.length_append,xs.length,ys.length];exact q.1
  refine P.add_list (G _ _ z) (G _ _ z') ?_ (by rw[List.size_toArray,List.size_toArray,<- List.length_append];exact Nat.le_trans e (by decide))
  rw[show(vs.toArray++vs'.toArray:Array Value)=(vs++vs').toArray by simp]
  exact I.list B H q.2 (ys.append xs) (by rw[List.length_append];exact q.1) _ _
 |_=>exact ns h
theorem ZLb(B:Beg c)(I:Inv c w σ Γ)(x:RepF c.P w.Z m a)(y:RepF c.P w.Z n b)(h:ZLc m n=some r)(H:∀w' v,Inv c w' σ (.o r v::Γ)->Q v w'.s):wpAny c.M c.A (binaryOp .Mult a b) Q E w.s:=by
 cases m with
 |int i=>
  refine x.int_e (G:=λa=>wpAny c.M c.A (binaryOp .Mult a b) Q E w.s) λt=>Zfo (G:=λb=>wpAny c.M c.A (binaryOp .Mult (.int i t) b) Q E w.s) h y λj u h=>?_
  have q:=Zak (x:=OV.f (.int (i*j))) h
  exact PyProof.Rows.mul_int (I.int B H (congrArg some q.2) _ _) (q.1.elim (λq=>IntMulOk.of_left (ZUi q)) λq=>IntMulOk.of_right (ZUi q))
 |lst l=>
  obtain⟨m,rfl,h⟩:=Znd h
  refine x.lst_e (G:=λa=>wpAny c.M c.A (binaryOp .Mult a b) Q E w.s) λp vs k z xs hx=>Zfo (G:=λb=>wpAny c.M c.A (binaryOp .Mult (.ref p) b) Q E w.s) h y λi u h=>?_
  have q:=Zak h
  have hl:=I.iv.zok _ _ z
  have rv:∃v,vs=[v]/\RepF c.P w.Z m v:=xs.cons_e (G:=λvs=>∃v,vs=[v]/\RepF c.P w.Z m v) λv ws r z=>⟨v,z.nil_e (G:=λws=>v::ws=[v]) rfl,r⟩
  obtain⟨v,rfl,rv⟩:=rv
  have hn:i.toNat<=10000:=Int.toNat_le.mpr q.1.2
  have h1:1*i.toNat<=10000:=(Nat.one_mul i.toNat).symm▸hn
  refine wpAny_binaryOp_repeat_ref (T:="list") (U:="int") (by decide) ⟨_,hl,rfl⟩ (λs'=>typeIs_int s' i u) noFill_list_mul PySem.F.fills_int_mul PySem.F.slot_int_rmul repeat_list PySem.F.slot_int_index.lookup
   (call_meets PySem.F.slot_int_rmul (typeIs_int w.s i u) PySem.F.entry_int_rmul (PySem.F.args_int_rmul_2 _ _) (int___rmul___int_list i u p _ k)
    ⟨hl,rfl,⟨_,hl,rfl⟩,call_meets PySem.F.slot_list_mul ⟨_,hl,rfl⟩ PySem.F.entry_list_mul (PySem.F.args_list_mul_2 _ _)
     (AutoListH.list___mul___list_int_3 p _ k i u (ZYr q.1.1 q.1.2) (Nat.not_lt_of_le (Nat.le_trans h1 (by decide))) (λh=>absurd (of_decide_eq_true h) (Nat.not_lt_of_le (Nat.le_trans h1 ten))))
     ⟨hl,?_⟩⟩)
  rw[show(if([v].toArray:Array Value).isEmpty=true then 0 else i.toNat)=i.toNat from if_neg (by simp),show[v].toArray=#[v]from rfl,Zvs]
  exact I.list B H q.2 (RepFs.replicate rv _) (by rw[List.length_replicate];exact hn) _ _
 |_=>exact ns h
theorem Zwd(B:Beg c){op:Operator}(I:Inv c w σ Γ)(x:RepF c.P w.Z m a)(y:RepF c.P w.Z n b)(h:Zcs op m n=some r)(H:∀w' v,Inv c w' σ (.o r v::Γ)->Q v w'.s):wpAny c.M c.A (binaryOp op a b) Q E w.s:=by
 cases op with
 |Add=>exact ZOg B I x y h H
 |Mult=>exact ZLb B I x y h H
 |Sub=>exact Zlq (G:=λa b=>wpAny c.M c.A (binaryOp .Sub a b) Q E w.s) h x y λi j t u h=>PyProof.Rows.sub_int' (I.int B H h _ _)
 |FloorDiv=>exact Zlq (G:=λa b=>wpAny c.M c.A (binaryOp .FloorDiv a b) Q E w.s) h x y λi j t u h=>PyProof.Rows.floordiv_int (λq=>(Zdh h).1 (.inl q)) (I.int B H (Zdh h).2 _ _) (.inl (PyProof.noPylong_small (Nat.not_le.mp λq=>(Zdh h).1 (.inr q))))
 |Mod=>exact Zlq (G:=λa b=>wpAny c.M c.A (binaryOp .Mod a b) Q E w.s) h x y λi j t u h=>IsLeap.wpAny_mod_int (Zdh h).1 (I.int B H (Zdh h).2 _ _)
 |Pow=>exact Zlq (G:=λa b=>wpAny c.M c.A (binaryOp .Pow a b) Q E w.s) h x y λi j t u h=>(λq:_/\OV.f (.int (i ^ j.toNat))=r=>PyProof.Rows.pow_int_small q.1.1 (Int.le_trans q.1.2.1 (by decide)) q.1.2.2 (I.int B H (congrArg some q.2) _ _)) (Zak h)
 |_=>exact ns h
end
end
section
open PySem.Calls
structure IsD(h:Heap)(v:Value)(d:PyData)(n:Nat):Prop where
 r:∃as,Reads h v d as
 lay:d.canLay0=true
 dep:d.depth<=n
structure IsDs(h:Heap)(vs:List Value)(ds:List PyData)(n:Nat):Prop where
 r:∃as,ReadsAll h vs ds as
 lay:PyData.canLayAll0 ds=true
 dep:PyData.depthAll ds<=n
section
variable{P:Px}{Z:Zf}{h:Heap}
theorem IsDs.lst{a:Addr}{vs:List Value}{k n:Nat}{ds:List PyData}(g:h.get? a=some (Zaj vs k))(x:IsDs h vs ds (n - 1))(hn:n≠0):IsD h (.ref a) (.list ds) n:=
 ⟨x.r.elim λas q=>⟨_,.list g rfl rfl (by simpa using q)⟩,x.lay,Nat.add_le_of_le_sub (Nat.pos_of_ne_zero hn) x.dep⟩
theorem IsDs.tup{a:Addr}{vs:List Value}{k n:Nat}{ds:List PyData}(g:h.get? a=some (Zuq vs k))(x:IsDs h vs ds (n - 1))(hn:n≠0):IsD h (.ref a) (.tuple ds) n:=
 ⟨x.r.elim λas q=>⟨_,.tuple g rfl rfl (by simpa using q)⟩,x.lay,Nat.add_le_of_le_sub (Nat.pos_of_ne_zero hn) x.dep⟩
theorem Zhn(zok:∀a o,Z a=some o->h.get? a=some o)(m:MV):∀n v d,RepF P Z m v->Zdc n m=some d->IsD h v d n:=by
 refine MV.rec (motive_1:=λm=>∀n v d,RepF P Z m v->Zdc n m=some d->IsD h v d n) (motive_2:=λl=>∀n vs ds,RepFs P Z l vs->Yx n l=some ds->IsDs h vs ds n)
  (motive_3:=λ_=>True) (motive_4:=λ_=>True) (motive_5:=λ_=>True) (motive_6:=λ_=>True)
  ?_ ?_ ?_ ?_ ?_ ?_ (λ_ _ _ _ _ _ _ e=>ns e) (λ_ _ _ _ _ _ e=>ns e) (λ_ _ _ _ _ e=>ns e) ?_ ?_ trivial (λ_ _ _ _=>trivial) trivial (λ_ _ _ _=>trivial) (λ_ _ _=>trivial) (λ_ _ _ _=>trivial) m
 .intro n v d r e
  rw[show v=.none from r,<- Option.some.inj (show some PyData.none=some d from e)]
  exact⟨⟨_,.none⟩,rfl,Nat.zero_le _⟩
 .intro b n v d r e
  rw[show v=.bool b from r,<- Option.some.inj (show some (PyData.bool b)=some d from e)]
  exact⟨⟨_,.bool b⟩,rfl,Nat.zero_le _⟩
 .intro i n v d r e
  rw[<- Option.some.inj (show some (PyData.int i)=some d from e)]
  exact r.int_e (G:=λv=>IsD h v (.int i) n) λt=>⟨⟨_,.int i t⟩,rfl,Nat.zero_le _⟩
 .intro x n v d r e
  have q:=Zak (show(if PyData.strOk x=true then some (PyData.str x)else none)=some d from e)
  rw[<- q.2]
  exact r.str_e (G:=λv=>IsD h v (.str x) n) λt=>⟨⟨_,.str x t⟩,q.1,Nat.zero_le _⟩
 .intro l ih n v d r e
  have q:=Zdh (show(if n=0 then none else(Yx (n - 1) l).map PyData.tuple)=some d from e)
  exact Zp q.2 λds e1 e2=>e2▸r.tup_e (G:=λv=>IsD h v (.tuple ds) n) λa vs k z rs _=>(ih _ _ _ rs e1).tup (zok _ _ z) q.1
 .intro l ih n v d r e
  have q:=Zdh (show(if n=0 then none else(Yx (n - 1) l).map PyData.list)=some d from e)
  exact Zp q.2 λds e1 e2=>e2▸r.lst_e (G:=λv=>IsD h v (.list ds) n) λa vs k z rs _=>(ih _ _ _ rs e1).lst (zok _ _ z) q.1
 .intro n vs ds r e
  rw[<- Option.some.inj (show some []=some ds from e)]
  exact r.nil_e (G:=λvs=>IsDs h vs [] n) ⟨⟨_,.nil⟩,rfl,Nat.zero_le _⟩
 .intro m r i1 i2 n vs ds x e
  refine x.cons_e (G:=λvs=>IsDs h vs ds n) λv ws rv rr=>Zh (show(Zdc n m).bind (λa=>(Yx n r).map (a::·))=some ds from e) λd e1 e=>Zp e λes e2 e3=>e3▸?_
  have k1:=i1 _ _ _ rv e1
  have k2:=i2 _ _ _ rr e2
  exact⟨k1.r.elim λ_ q1=>k2.r.elim λ_ q2=>⟨_,.cons q1 q2⟩,by unfold PyData.canLayAll0;rw[k1.lay,k2.lay];rfl,Nat.max_le.mpr ⟨k1.dep,k2.dep⟩⟩
theorem Zjh(zok:∀a o,Z a=some o->h.get? a=some o){n:Nat}{l:List MV}:∀{vs ds},RepFs P Z l vs->Yx n l=some ds->IsDs h vs ds n:=by
 induction l with
 |nil=>
  intro vs ds r e
  rw[<- Option.some.inj (show some []=some ds from e)]
  exact r.nil_e (G:=λvs=>IsDs h vs [] n) ⟨⟨_,.nil⟩,rfl,Nat.zero_le _⟩
 |cons m r i2=>
  intro vs ds x e
  refine x.cons_e (G:=λvs=>IsDs h vs ds n) λv ws rv rr=>Zh (show(Zdc n m).bind (λa=>(Yx n r).map (a::·))=some ds from e) λd e1 e=>Zp e λes e2 e3=>e3▸?_
  have k1:=Zhn zok _ _ _ _ rv e1
  have k2:=i2 rr e2
  exact⟨k1.r.elim λ_ q1=>k2.r.elim λ_ q2=>⟨_,.cons q1 q2⟩,by unfold PyData.canLayAll0;rw[k1.lay,k2.lay];rfl,Nat.max_le.mpr ⟨k1.dep,k2.dep⟩⟩
end
section
variable{c:Cx}{w:Wd}{m:MV}{o:OV}{a b:Value}{r:Bool}{Q:Value->Shared->Prop}{E:Value->Shared->Prop}
theorem Zry(zok:∀a o,w.Z a=some o->w.s.heap.get? a=some o){d:PyData}(r:Rd c.P w o b)(e:Zdc Zr o.frz=some d):IsD w.s.heap b d Zr:=by
 cases o with
 |f m=>exact Zhn zok _ _ _ _ r e
 |l vs=>exact Zp (show(Yx 7 vs).map PyData.list=some d from e) λds e1 e2=>e2▸r.elim λt r=>r.elim λx r=>r.e (G:=λb=>IsD w.s.heap b (.list ds) Zr) λa us n _ g rs _=>(Zjh zok rs e1).lst g (by decide)
 |o _ _=>exact ns e
theorem Zeb{P:Px}{Z:Zf}{v:Value}(r:RepF P Z m v):isNone m=(v==Value.none):=by
 cases m with
 |none=>rw[show v=.none from r];rfl
 |bool b=>rw[show v=.bool b from r];rfl
 |int i=>exact r.int_e (G:=λv=>isNone (.int i)=(v==Value.none)) λ_=>rfl
 |str i=>exact r.str_e (G:=λv=>isNone (.str i)=(v==Value.none)) λ_=>rfl
 |tup l=>exact r.tup_e (G:=λv=>isNone (.tup l)=(v==Value.none)) λ_ _ _ _ _ _=>rfl
 |lst l=>exact r.lst_e (G:=λv=>isNone (.lst l)=(v==Value.none)) λ_ _ _ _ _ _=>rfl
 |obj l f=>exact r.obj_e (G:=λv=>isNone (.obj l f)=(v==Value.none)) λ_ _ _ _ _ _ _=>rfl
 |dct l=>exact r.dct_e (G:=λv=>isNone (.dct l)=(v==Value.none)) λ_ _ _ _ _ _=>rfl
 |con w=>exact r.1▸rfl
theorem RepK.keysOf{P:Px}{Z:Zf}{l:List (MV×MV)}:∀{es:List DictEntry},RepK P Z l es->∀e∈es,∃x,Zcy P x e:=by
 induction l with
 |nil=>exactλ{es} x e he=>(List.not_mem_nil ((show es=[]from x)▸he:e∈[])).elim
 |cons p r ih=>
  rintro es ⟨en,q,y,rfl,_,h1,_,h2⟩ e he
  exact(List.mem_cons.mp he).elim (λz=>⟨y,z▸h1⟩) λz=>ih h2 e z
theorem RepK.map{Z:Zf}{h:Heap}{a:Addr}{l:List (MV×MV)}{es:List DictEntry}{n:Nat}(ha:h.get? a=some (dictOf es n))(r:RepK c.P Z l es):h.MapOf (strKind c.prog c.w) a (λk=>findBy Value.isStrOf es.toArray k):=
 ⟨_,es.toArray,n,ha,⟨rfl,rfl,rfl⟩,rfl,λe he=>(r.keysOf e (by simpa using he)).elim λx q=>⟨x,q.1.elim λt e1=>by rw[e1];exact strKind_is c.prog c.w x t,q.2⟩,λ_=>rfl⟩
theorem Zxr{e:DictEntry}{q:List DictEntry}{P:Px}{x:Str}(h:Zcy P x e):findBy Value.isStrOf (e::q).toArray x=some e.val:=by
 obtain⟨⟨t,hk⟩,_⟩:=h
 unfold findBy
 rw[List.find?_toArray,List.find?_cons,hk]
 simp[Value.isStrOf]
theorem Ztb{e:DictEntry}{q:List DictEntry}{P:Px}{x y:Str}(h:Zcy P y e)(n:y≠x):findBy Value.isStrOf (e::q).toArray x=findBy Value.isStrOf q.toArray x:=by
 obtain⟨⟨t,hk⟩,_⟩:=h
 unfold findBy
 rw[List.find?_toArray,List.find?_toArray,List.find?_cons,hk,show Value.isStrOf x (.str y t)=false by simp[Value.isStrOf,n]]
noncomputable def Has(P:Px)(Z:Zf)(m:Option MV)(v:Option Value):Prop:=match m with
 |some m=>∃u,v=some u/\RepF P Z m u
 |none=>v=none
theorem RepK.find{P:Px}{Z:Zf}{x:Str}{l:List (MV×MV)}:∀{es:List DictEntry},RepK P Z l es->Has P Z (Zhx x l) (findBy Value.isStrOf es.toArray x):=by
 induction l with
 |nil=>exactλ{es} r=>(show es=[]from r)▸rfl
 |cons p r ih=>
  obtain⟨k,m⟩:=p
  rintro es ⟨en,q,y,rfl,rfl,h1,h3,h2⟩
  show Has P Z (if y=x then some m else Zhx x r) _
  by_cases hy:y=x
  .subst hy;rw[if_pos rfl,Zxr h1];exact⟨_,rfl,h3⟩
  .rw[if_neg hy,Ztb h1 hy];exact ih h2
theorem Has.isSome{P:Px}{Z:Zf}{m:Option MV}{v:Option Value}(h:Has P Z m v):v.isSome=m.isSome:=by
 cases m with
 |none=>exact(show v=none from h)▸rfl
 |some m=>exact h.elim λu q=>q.1▸rfl
theorem Zte(I:Iv c w)(hu:c.A.units+100 < cLine)(ra:RepF c.P w.Z m a)(rb:Rd c.P w o b)(h:Zil m o.frz=some r)(H:∀b t,b=r->Q (.bool b) {w.s with toks:=t}):wpAny c.M c.A (compareOp .Eq a b) Q E w.s:=
 Zh h λx e1 h=>Zp h λy e2 h=>by
  have k1:=Zhn I.zok _ _ _ _ ra e1
  have k2:=Zry I.zok rb e2
  obtain⟨as,r1⟩:=k1.r
  obtain⟨bs,r2⟩:=k2.r
  exact SeqAt.compareEq_reads r1 r2 k1.lay k2.lay (Nat.lt_of_le_of_lt (Nat.add_le_add_left (Nat.le_trans (Nat.min_le_left _ _) (Nat.le_trans k1.dep (by decide:Zr<=100))) c.A.units) hu) (H _ w.s.toks h)
theorem ZKw(I:Iv c w)(hu:c.A.units+100 < cLine)(ra:RepF c.P w.Z m a)(rb:Rd c.P w o b)(h:(Zil m o.frz).map (!·)=some r)(H:∀b t,b=r->Q (.bool b) {w.s with toks:=t}):wpAny c.M c.A (compareOp .NotEq a b) Q E w.s:=
 Zp h λz h e=>Zh h λx e1 h=>Zp h λy e2 h=>by
  have k1:=Zhn I.zok _ _ _ _ ra e1
  have k2:=Zry I.zok rb e2
  obtain⟨as,r1⟩:=k1.r
  obtain⟨bs,r2⟩:=k2.r
  exact SeqAt.compareNe_reads r1 r2 k1.lay k2.lay (Nat.lt_of_le_of_lt (Nat.add_le_add_left (Nat.le_trans (Nat.min_le_left _ _) (Nat.le_trans k1.dep (by decide:Zr<=100))) c.A.units) hu) (H _ w.s.toks (h▸e))
theorem ZMr(I:Iv c w)(hu:c.A.units+100 < cLine){l:List MV}(ra:RepF c.P w.Z (.lst l) a)(rb:Rd c.P w o b)(ho:o.frz=.lst [])(h:l.isEmpty=r)(H:∀b t,b=r->Q (.bool b) {w.s with toks:=t}):wpAny c.M c.A (compareOp .Eq a b) Q E w.s:=by
 have hb:∃a2 n2,b=.ref a2/\w.s.heap.get? a2=some (Zaj [] n2):=by
  cases o with
  |f q=>exact(show RepF c.P w.Z (.lst []) b from(show q=.lst []from ho)▸rb).lst_e (G:=λb=>∃a2 n2,b=.ref a2/\w.s.heap.get? a2=some (Zaj [] n2)) λa us n z rs _=>⟨a,n,rfl,rs.nil_e (G:=λus=>w.Z a=some (Zaj us n)->w.s.heap.get? a=some (Zaj [] n)) (I.zok _ _) z⟩
  |l q=>
   cases ho
   exact rb.elim λt r=>r.elim λx r=>r.e (G:=λb=>∃a2 n2,b=.ref a2/\w.s.heap.get? a2=some (Zaj [] n2)) λa us n _ g rs _=>⟨a,n,rfl,rs.nil_e (G:=λus=>w.s.heap.get? a=some (Zaj us n)->w.s.heap.get? a=some (Zaj [] n)) id g⟩
  |o _ _=>exact nomatch ho
 obtain⟨a2,n2,rfl,hb⟩:=hb
 refine ra.lst_e (G:=λa=>wpAny c.M c.A (compareOp .Eq a (.ref a2)) Q E w.s) λa1 vs n1 z rs _=>?_
 have hl:=rs.length
 have hu0:c.A.units < cLine:=Nat.lt_of_le_of_lt (Nat.le_add_right _ _) hu
 cases l with
 |nil=>
  refine SeqAt.eq_listAt (items:=vs.toArray) (items2:=([]:List Value).toArray) (e:=λ_=>true) ⟨_,I.zok _ _ z,rfl,n1,rfl⟩ ⟨_,hb,rfl,n2,rfl⟩ (by simp;exact List.eq_nil_of_length_eq_zero hl) hu0 (λj j1 j2=>by simp at j2) (H _ w.s.toks ?_)
  rw[<- h];simp
 |cons x l=>exact SeqAt.eq_list_lengthsAt (items:=vs.toArray) (items2:=([]:List Value).toArray) ⟨_,I.zok _ _ z,rfl,n1,rfl⟩ ⟨_,hb,rfl,n2,rfl⟩ (by simp only[List.size_toArray,List.length_nil,bne_iff_ne,ne_eq];rw[hl];simp) hu0 (H _ w.s.toks h)
theorem ZSg(I:Iv c w)(hu:c.A.units+100 < cLine)(ra:RepF c.P w.Z m a)(rb:Rd c.P w o b)(h:meq m o.frz=some r)(H:∀b t,b=r->Q (.bool b) {w.s with toks:=t}):wpAny c.M c.A (compareOp .Eq a b) Q E w.s:=by
 have key:∀n,o.frz=n->meq m n=some r->wpAny c.M c.A (compareOp .Eq a b) Q E w.s:=λn e h=>by
  cases n with
  |lst k=>
   cases k with
   |nil=>
    cases m with
    |lst l=>exact ZMr I hu ra rb e (Option.some.inj h) H
    |_=>exact Zte I hu ra rb (e▸h) H
   |cons x k=>exact Zte I hu ra rb (e▸h) H
  |_=>exact Zte I hu ra rb (e▸h) H
 exact key _ rfl h
theorem ZLx(I:Iv c w)(hu:c.A.units+100 < cLine){neg:Bool}(ra:RepF c.P w.Z m a)(rb:Rd c.P w o b)(h:ZRs m o=some r)(H:∀b t,b=(neg ^^ r)->Q (.bool b) {w.s with toks:=t}):
  wpAny c.M c.A (compareOp (bif neg then .NotIn else .In) a b) Q E w.s:=by
 have any:∀{l},Zdl m l=some r->(∀{ys},Yx Zr l=some ys->((∃cs,Reads w.s.heap b (.list ys) cs)\/∃cs,Reads w.s.heap b (.tuple ys) cs)/\PyData.canLayAll0 ys=true/\PyData.depthAll ys<=Zr)->wpAny c.M c.A (compareOp (bif neg then .NotIn else .In) a b) Q E w.s:=λ{l} h g=>
  Zh h λx e1 h=>Zp h λys e2 h=>by
   have k:=Zhn I.zok _ _ _ _ ra e1
   have q:=g e2
   have room:c.A.units+1+min (PyData.depthAll ys) x.depth < cLine:=Nat.lt_of_le_of_lt (Nat.add_le_add_left (Nat.le_trans (Nat.min_le_right _ _) (Nat.le_trans k.dep (by decide:Zr<=99))) (c.A.units+1)) hu
   refine k.r.elim λas r1=>q.1.elim (λq1=>q1.elim λcs q1=>?_) λq1=>q1.elim λcs q1=>?_
   .cases neg with
    |false=>exact SeqAt.in_list_reads q1 r1 q.2.1 k.lay room (H _ w.s.toks (by rw[<- h,Bool.false_xor]))
    |true=>exact SeqAt.notIn_list_reads q1 r1 q.2.1 k.lay room (H _ w.s.toks (by rw[<- h,Bool.true_xor]))
   .cases neg with
    |false=>exact SeqAt.in_tuple_reads q1 r1 q.2.1 k.lay room (H _ w.s.toks (by rw[<- h,Bool.false_xor]))
    |true=>exact SeqAt.notIn_tuple_reads q1 r1 q.2.1 k.lay room (H _ w.s.toks (by rw[<- h,Bool.true_xor]))
 have lst:∀{x us k l},w.s.heap.get? x=some (Zaj us k)->RepFs c.P w.Z l us->b=.ref x->Zdl m l=some r->wpAny c.M c.A (compareOp (bif neg then .NotIn else .In) a b) Q E w.s:=λg rs e h=>any h λ{ys} hy=>by
  have k:=Zjh I.zok rs hy
  exact⟨.inl (k.r.elim λ_ q=>⟨_,by rw[e];exact Reads.list g rfl rfl (by simpa using q)⟩),k.lay,k.dep⟩
 cases o with
 |l l=>exact rb.elim λt rb=>rb.elim λx rb=>rb.e (G:=λv=>b=v->wpAny c.M c.A (compareOp (bif neg then .NotIn else .In) a b) Q E w.s) (λa us n _ g rs _ e=>lst g rs e h) rfl
 |o _ _=>exact ns h
 |f o=>
  cases o with
  |lst l=>exact RepF.lst_e (G:=λv=>b=v->wpAny c.M c.A (compareOp (bif neg then .NotIn else .In) a b) Q E w.s) rb (λa us n z rs _ e=>lst (I.zok _ _ z) rs e h) rfl
  |tup l=>
   refine RepF.tup_e (G:=λv=>b=v->wpAny c.M c.A (compareOp (bif neg then .NotIn else .In) a b) Q E w.s) rb (λa us n z rs _ e=>any h λ{ys} hy=>?_) rfl
   have k:=Zjh I.zok rs hy
   exact⟨.inr (k.r.elim λ_ q=>⟨_,by rw[e];exact Reads.tuple (I.zok _ _ z) rfl rfl (by simpa using q)⟩),k.lay,k.dep⟩
  |dct l=>
   refine Zp h λk e h=>(Zjz e▸ra:RepF c.P w.Z (.str k) a).str_e (G:=λa=>wpAny c.M c.A (compareOp (bif neg then .NotIn else .In) a b) Q E w.s) λt=>
    RepF.dct_e (G:=λb=>wpAny c.M c.A (compareOp (bif neg then .NotIn else .In) (.str k t) b) Q E w.s) rb λx es n hs z rk=>?_
   have hm:=RepK.map (c:=c) (I.zok _ _ z) rk
   have hf:=(rk.find (x:=k)).isSome
   cases neg with
   |false=>exact wpAny_in_of (strKind_is c.prog c.w k t) hs hm (H _ _ (by rw[hf,h,Bool.false_xor]))
   |true=>exact wpAny_notIn_of (strKind_is c.prog c.w k t) hs hm (H _ _ (by rw[hf,h,Bool.true_xor]))
  |_=>exact ns h
theorem Zlf{k r:Bool}(h:Zqp o k=some r):o=.f .none/\k=r:=by
 cases o with
 |f m=>cases m with
  |none=>exact⟨rfl,Option.some.inj h⟩
  |_=>exact ns h
 |_=>exact ns h
theorem Zud{i:Int}(h:Jr o.frz=some i):o=.f (.int i):=by
 cases o with
 |f m=>exact congrArg OV.f (Zcw h)
 |_=>exact ns h
theorem Zbc{f:Int->Int->Bool}{G:Value->Value->Prop}(ra:RepF c.P w.Z m a)(rb:Rd c.P w o b)(h:Qa (λx y=>some (f x y)) m o.frz=some r)(k:∀x y t u,f x y=r->G (.int x t) (.int y u)):G a b:=
 Zfo (G:=λa=>G a b) h ra λi t h=>Zh h λj e h=>(show RepF c.P w.Z (.int j) b from(Zud e▸rb:Rd c.P w (.f (.int j)) b)).int_e (G:=G (.int i t)) λu=>k i j t u (Option.some.inj h)
theorem Zey{op:CmpOp}(I:Iv c w)(hu:c.A.units+100 < cLine)(ra:RepF c.P w.Z m a)(rb:Rd c.P w o b)(h:Ym op m o=some r)(H:∀t,Q (.bool r) {w.s with toks:=t}):wpAny c.M c.A (compareOp op a b) Q E w.s:=by
 have K:∀b t,b=r->Q (.bool b) {w.s with toks:=t}:=λb t e=>e▸H t
 cases op with
 |Eq=>exact ZSg I hu ra rb h K
 |NotEq=>exact ZKw I hu ra rb h K
 |Is=>
  obtain⟨rfl,e⟩:=Zlf h
  rw[show b=.none from rb]
  exact PyProof.Rows.is_none_gen (K _ w.s.toks ((Zeb ra).symm.trans e))
 |IsNot=>
  obtain⟨rfl,e⟩:=Zlf h
  rw[show b=.none from rb]
  exact PyProof.Rows.isnot_none_gen (K _ w.s.toks ((congrArg (!·) (Zeb ra)).symm.trans e))
 |In=>exact ZLx (neg:=false) I hu ra rb h λb t e=>K b t (e.trans (Bool.false_xor r))
 |NotIn=>exact Zp h λx h e=>ZLx (neg:=true) I hu ra rb h λb t q=>K b t (q.trans ((Bool.true_xor x).trans e))
 |Lt=>exact Zbc (G:=λa b=>wpAny c.M c.A (compareOp .Lt a b) Q E w.s) ra rb h λi j t u e=>P.lt_int (K _ w.s.toks e)
 |LtE=>exact Zbc (G:=λa b=>wpAny c.M c.A (compareOp .LtE a b) Q E w.s) ra rb h λi j t u e=>P.le_int (K _ w.s.toks e)
 |Gt=>exact Zbc (G:=λa b=>wpAny c.M c.A (compareOp .Gt a b) Q E w.s) ra rb h λi j t u e=>P.gt_int (K _ w.s.toks e)
 |GtE=>exact Zbc (G:=λa b=>wpAny c.M c.A (compareOp .GtE a b) Q E w.s) ra rb h λi j t u e=>P.ge_int (K _ w.s.toks e)
end
end
section
open PySem.Calls
noncomputable def Air(c:Cx)(B:Heap)(e:Addr)(a0:Value)(h:Heap):Prop:=Heap.FlyingW B c.l e (.ref c.bad) a0 h\/∃L,c.env.frame=some L/\Heap.HeldW B c.l e (.ref c.bad) a0 L h
structure Flown(c:Cx)(s':Shared)(e:Addr):Prop where
 kept:∀a o,c.s1.heap.get? a=some o->c.W1 a=none->a ∉ c.X->s'.heap.get? a=some o\/(a∈c.FL/\∃sl,s'.heap.get? a=some {o with slots:=sl})
 os:s'.os=c.s1.os
 gens:s'.gens=#[]
 fly:∃B a0,(∀b o,c.s1.heap.get? b=some o->c.W1 b=none->b ∉ c.X->b ∉ c.FL->B.get? b=some o)/\Air c B e a0 s'.heap
noncomputable abbrev Er(c:Cx)(E:Prop)(Ev:Value->Shared->Prop):Prop:=E->∀e s',Flown c s' e->Ev (.ref e) s'
noncomputable abbrev GV(c:Cx)(E:Prop)(tree:Sem Value)(T:Sg->(OV->Sg->Prop)->Prop):Prop:=∀⦃σ:Sg⦄ ⦃Q:OV->Sg->Prop⦄ ⦃w:Wd⦄ ⦃Γ:List En⦄,T σ Q->Inv c w σ Γ->∀⦃Qv:Value->Shared->Prop⦄ ⦃Ev:Value->Shared->Prop⦄,
 (∀w' v o σ',Q o σ'->Inv c w' σ' (.o o v::Γ)->Qv v w'.s)->Er c E Ev->wpAny c.M c.A tree Qv Ev w.s
noncomputable abbrev GT(c:Cx)(E:Prop)(tree:Sem Bool)(T:Sg->(OV->Sg->Prop)->Prop):Prop:=∀⦃σ:Sg⦄ ⦃Q:Bool->Sg->Prop⦄ ⦃w:Wd⦄ ⦃Γ:List En⦄,T σ (λv σ=>bOf (λb=>Q b σ) v)->Inv c w σ Γ->∀⦃Qv:Bool->Shared->Prop⦄ ⦃Ev:Value->Shared->Prop⦄,
 (∀w' b σ',Q b σ'->Inv c w' σ' Γ->Qv b w'.s)->Er c E Ev->wpAny c.M c.A tree Qv Ev w.s
theorem Ye{K:MV->Prop}{v:OV}(h:Zdi K v):K v.frz:=by cases v <;> exact h
theorem Zo{α:Type}{K:α->Prop}{o:Option α}(h:onS K o):∃a,o=some a/\K a:=by
 cases o with
 |some a=>exact⟨a,rfl,h⟩
 |none=>exact h.elim
theorem Zfe{A:Prop}{b:Bool}(h:onB A False b):b=true/\A:=by
 cases b with
 |true=>exact⟨rfl,h⟩
 |false=>exact h.elim
theorem Zyz{K:Bool->Prop}{v:OV}(h:bOf K v):∃b,v=.f (.bool b)/\K b:=by
 cases v with
 |f m=>cases m with
  |bool b=>exact⟨b,rfl,h⟩
  |_=>exact h.elim
 |_=>exact h.elim
theorem ZFc{K:Int->Prop}{v:OV}(h:iOf K v):∃b,v=.f (.int b)/\K b:=by
 cases v with
 |f m=>cases m with
  |int b=>exact⟨b,rfl,h⟩
  |_=>exact h.elim
 |_=>exact h.elim
theorem Yy:∀{σ:Sg} {K:Sg->Prop},stK σ K->K σ
 | [],_,h=>h
 |_::r,K,h=>Yy (σ:=r) h
theorem Zjg{o:Option (Option OV)}{v:OV}(h:kn o=some v):o=some (some v):=by
 cases o with
 |some o=>exact congrArg some h
 |none=>exact ns h
noncomputable def Zur(x:Str):List Str->Option Nat
 | []=>none
 |y::r=>if y=x then some 0 else(Zur x r).map (·+1)
theorem Zhl{x:Str}:∀{l:List Str} {i:Nat},Zur x l=some i->nth l i=some x
 |y::r,i,h=>by
  by_cases q:y=x
  .rw[Zur,if_pos q]at h
   rw[<- Option.some.inj h,<- q];rfl
  .rw[Zur,if_neg q]at h
   exact Zp h λj h e=>e▸Zhl (l:=r) h
noncomputable def ZHq(x:Str):List (Str×MV)->Option Nat
 | []=>none
 |p::r=>if p.1=x then some 0 else(ZHq x r).map (·+1)
theorem Zsi{x:Str}{l:List (Str×MV)}:∀{i:Nat} {p:Str×MV},ZHq x l=some i->nth l i=some p->l.lookup x=some p.2:=by
 induction l with
 |nil=>exactλh=>ns h
 |cons q r ih=>
  intro i p h g
  rw[List.lookup_cons]
  by_cases k:q.1=x
  .rw[ZHq,if_pos k]at h
   cases h;cases g
   rw[<- k,beq_self_eq_true]
  .rw[ZHq,if_neg k]at h
   rw[beq_eq_false_iff_ne.mpr (Ne.symm k)]
   exact Zp h λj hj e=>by subst e;exact ih hj g
noncomputable def Zog(sc:Sc)(xs:List Str)(x:Str):Option Pa:=if sc.lookup x=some .globalImplicit then(ZHq x Xw).map .g else if Zni (sc.lookup x)=true then(Zur x xs).map .v else none
noncomputable def Zqx(sc:Sc)(xs:List Str)(e:Expr):Option Pa:=match e with
 | .Name x _=>Zog sc xs x
 |_=>none
noncomputable def pth(sc:Sc)(xs:List Str):Nat->Expr->Option Pa
 |0,e=>Zqx sc xs e
 |n+1,e=>match e with
  | .Attribute b a _=>(pth sc xs n b).map (.fd · a)
  |e=>Zqx sc xs e
noncomputable def PV(c:Cx)(w:Wd)(p:Pa)(v:Value):Prop:=match p with
 | .v i=>c.vl w i=some v
 | .fd q a=>(match q with| .v i=>∃u,c.vl w i=some u/\AtV w.s.heap u a v|_=>True)
 | .g _=>True
section
variable{c:Cx}{sc:Sc}{w w':Wd}{σ σ':Sg}{Γ:List En}{X:Nat->Prop}{o:OV}{v:Value}{E:Prop}{N:Nat}
structure PK(c:Cx)(w:Wd)(e:Expr)(p:Pa)(o:OV)(v:Value):Prop where
 rd:Rd c.P w o v
 pv:PV c w p v
 go:∀{tk:Nat} {Q:Value->Shared->Prop} {E:Value->Shared->Prop},(∀t,Q v {w.s with toks:=t})->wpAny c.M c.A (eval e c.env) Q E {w.s with toks:=tk}
theorem Zfg{xs:List Str}{e:Expr}{p:Pa}(h:Zqx sc xs e=some p):∃x pos,e=.Name x pos/\Zog sc xs x=some p:=by
 cases e with
 |Name x pos=>exact⟨x,pos,rfl,h⟩
 |_=>exact ns h
theorem Zwc{xs:List Str}{n:Nat}{e:Expr}{p:Pa}(h:pth sc xs n e=some p):Zqx sc xs e=some p\/∃k b a pos q,n=k+1/\e=.Attribute b a pos/\p=.fd q a/\pth sc xs k b=some q:=by
 cases n with
 |zero=>exact .inl h
 |succ n=>cases e with
  |Attribute b a pos=>exact Zp (show(pth sc xs n b).map (Pa.fd · a)=some p from h) λq h e=>.inr ⟨n,b,a,pos,q,rfl,rfl,e.symm,h⟩
  |_=>exact .inl h
theorem Zki{xs:List Str}{x:Str}{p:Pa}(h:Zog sc xs x=some p):(∃j,sc.lookup x=some .globalImplicit/\ZHq x Xw=some j/\p=.g j)\/∃j,Zni (sc.lookup x)=true/\Zur x xs=some j/\p=.v j:=by
 unfold Zog at h
 by_cases q:sc.lookup x=some .globalImplicit
 .rw[if_pos q]at h
  exact Zp h λj h e=>.inl ⟨j,q,h,e.symm⟩
 .rw[if_neg q]at h
  by_cases k:Zni (sc.lookup x)=true
  .rw[if_pos k]at h
   exact Zp h λj h e=>.inr ⟨j,k,h,e.symm⟩
  .rw[if_neg k]at h;exact ns h
theorem ZDv(B:Blk c sc)(I:Inv c w σ Γ){x:Str}{pos:Pos}{p:Pa}(h:Zog sc c.xs x=some p)(hp:pk p σ=some o):∃v,PK c w (.Name x pos) p o v:=by
 rcases Zki h with⟨j,q,hj,rfl⟩|⟨j,q,hj,rfl⟩
 .exact Zp (show(nth Xw j).map (λp=>OV.f p.2)=some o from hp) λy h' e=>(Zt B I.iv q (Zsi hj h')).elim λv z=>⟨v,e▸z.1,trivial,λk=>z.2 (k _)⟩
 .exact(I.en j o (Zjg hp)).elim λv z=>⟨v,z.2.rd,z.1,λy=>Xr B I.iv (Zhl hj) q z.1 (y _)⟩
theorem Yq(B:Blk c sc)(I:Inv c w σ Γ){n:Nat}:∀{e:Expr} {p:Pa} {o:OV},pth sc c.xs n e=some p->pk p σ=some o->∃v,PK c w e p o v:=by
 have nm:∀{e:Expr} {p:Pa} {o:OV},Zqx sc c.xs e=some p->pk p σ=some o->∃v,PK c w e p o v:=λh hp=>(Zfg h).elim λx h=>h.elim λpos h=>h.1▸ZDv B I h.2 hp
 induction n with
 |zero=>exact nm
 |succ n ih=>
  intro e p o h hp
  rcases Zwc h with h|⟨k,b,a,pos,q,hk,rfl,rfl,hq⟩
  .exact nm h hp
  .cases hk
   refine Zh (show(pk q σ).bind (Ui · a)=some o from hp) λo1 h1 h2=>(ih hq h1).elim λu k=>(Zpo B I.iv k.rd h2).elim λv z=>⟨v,z.1,?_,λy=>?_⟩
   .have:=k.pv
    cases q with
    |v i=>exact⟨u,this,z.2.1⟩
    |_=>trivial
   .rcases Zwc hq with hq|⟨_,b',a',pos',_,_,rfl,_⟩
    .obtain⟨x,pos',rfl,_⟩:=Zfg hq
     exact Attribute_any_ (k.go λt=>z.2.2 y)
    .exact Attribute_any_ (k.go λt=>z.2.2 y)
theorem Zhq{α:Type}{x y:Str}{v:α}(n:x≠y){r:List (Str×α)}(h:∀p∈r,p.1≠y):∀p∈Zlx x v r,p.1≠y:=by
 induction r with
 |nil=>exactλp hp=>(List.mem_singleton.mp hp)▸n
 |cons q r ih=>
  intro p hp
  unfold Zlx at hp
  by_cases k:q.1=x
  .rw[if_pos k]at hp
   exact(List.mem_cons.mp hp).elim (λe=>e▸n) λhp=>h p (List.mem_cons_of_mem _ hp)
  .rw[if_neg k]at hp
   exact(List.mem_cons.mp hp).elim (λe=>e▸h q List.mem_cons_self) λhp=>ih (λp hp=>h p (List.mem_cons_of_mem _ hp)) p hp
theorem RepOD.put{P:Px}{t cl:Nat}{x:Str}{m m':OF}(hz:w.Z.Sub w'.Z)(k:∀y,y≠x->Zum w w' (t,some y) (t,some y)){fs:List (Str×OF)}:∀{es:List DictEntry},RepOD P w t cl fs es->fs.lookup x=some m->(∀v,getL x es=some (some v)->RepOF P w' t x m' v)->RepOD P w' t cl (Zlx x m' fs) es:=by
 induction fs with
 |nil=>exactλ_ e _=>ns e
 |cons p r ih=>
  rintro es ⟨e,q,rfl,h1,h2,h3,h4,h5⟩ h g
  unfold Zlx
  have rest:∀{r:List (Str×OF)} {q},(∀y∈r,y.1≠x)->RepOD P w t cl r q->RepOD P w' t cl r q:=λ{r}=>by
   induction r with
   |nil=>exactλ_ h=>h
   |cons y r ih=>
    rintro q hn ⟨e,q,rfl,h1,h2,h3,h4,h5⟩
    exact .cons h1 h2 (h3.keep hz (k _ (hn y List.mem_cons_self))) h4 (ih (λz hz=>hn z (List.mem_cons_of_mem _ hz)) h5)
  rcases Xq h with⟨rfl,rfl⟩|⟨n,h⟩
  .rw[if_pos rfl]
   exact .cons h1 h2 (g _ (Zfq h1)) h4 (rest h4 h5)
  .rw[if_neg n]
   exact .cons h1 h2 (h3.keep hz (k _ n)) (Zhq (Ne.symm n) h4) (ih h5 h λv e=>g v (Zco h1 n e))
theorem f_o{m:MV}{c:Nat}{f:List (Str×OF)}{G:Prop}(h:OV.f m=.o c f):G:=nomatch h
theorem f_l{m:MV}{l:List MV}{G:Prop}(h:OV.f m=.l l):G:=nomatch h
theorem Zjy{o:OV}{x:Str}{cl:Nat}{fs:List (Str×OF)}(h:Ui o x=some (.o cl fs)):False:=by
 cases o with
 |f m=>cases m with
  |obj c f=>exact Zp (show(f.lookup x).map OV.f=some (.o cl fs)from h) λ_ _ e=>f_o e
  |_=>exact ns h
 |o c f=>exact Zp (show(f.lookup x).map OF.ov=some (.o cl fs)from h) λm _ e=>by cases m <;> exact nomatch e
 |l _=>exact ns h
theorem ZBd{o:OV}{x:Str}{l:List MV}(h:Ui o x=some (.l l)):∃cl fs m,o=.o cl fs/\fs.lookup x=some m/\m=OF.l l:=by
 cases o with
 |f m=>cases m with
  |obj c f=>exact Zp (show(f.lookup x).map OV.f=some (.l l)from h) λ_ _ e=>f_l e
  |_=>exact ns h
 |o c f=>
  refine Zp (show(f.lookup x).map OF.ov=some (.l l)from h) λm hm e=>?_
  cases m with
  |f m=>exact f_l e
  |l k=>exact⟨c,f,_,rfl,hm,by cases e;rfl⟩
 |l _=>exact ns h
noncomputable def Ybd(P:Px)(w:Wd)(t:Nat)(x:Option Str)(o:OV)(v:Value):Prop:=match o with
 | .f m=>RepF P w.Z m v
 | .l l=>RepL P w t x l v
 | .o _ _=>False
structure Loc(c:Cx)(w:Wd)(σ:Sg)(p:Pa)(l:List MV)(v:Value)(t:Nat)(x:Option Str):Prop where
 r:RepL c.P w (2*t) x l v
 put:∀{w' o' σ'},Stp c (·=2*t) w w'->(∀y,y≠x->Zum w w' (2*t,y) (2*t,y))->Ybd c.P w' (2*t) x o' v->Zez σ o' p=some σ'->EnvS c w' σ'
theorem Zdm{t:Nat}:∀j,2*j=2*t->j=t:=λj h=>Nat.eq_of_mul_eq_mul_left (by decide) h
theorem AtV.at{H:Heap}{a d cl:Nat}{es:List DictEntry}{n:Nat}{x:Str}{u:Value}(h:AtV H (.ref a) x u)(h1:H.get? a=some (instObj cl d))(h2:H.get? d=some (dictOf es n)):getL x es=some (some u):=by
 obtain⟨a',d',cl',es',n',e,g1,g2,g3⟩:=h
 cases e
 cases h1.symm.trans g1
 cases h2.symm.trans g2
 exact g3
theorem ZLj(I:EnvS c w σ){i cl:Nat}{a:Str}{fs:List (Str×OF)}{l:List MV}(hk:nth σ i=some (some (.o cl fs)))(hm:fs.lookup a=some (.l l))(hv:PV c w (.fd (.v i) a) v):Loc c w σ (.fd (.v i) a) l v i (some a):=by
 obtain⟨u,k1,k2⟩:=I i _ hk
 refine k2.o_e (G:=λu=>AtV w.s.heap u a v->c.vl w i=some u->Loc c w σ (.fd (.v i) a) l v i (some a)) (λx d es n y1 y2 z1 z2 rd at_ k1=>?_) (hv.elim λu' e=>Option.some.inj (e.1.symm.trans k1)▸e.2) k1
 have g3:=at_.at z1 z2
 have one:∀{v'},getL a es=some (some v')->v'=v:=λe=>Option.some.inj (Option.some.inj (e.symm.trans g3))
 refine⟨(rd.look hm).elim λv' f=>one f.1▸f.2.1,λ{w' o' σ'} S k r h=>?_⟩
 have fin:∀m',RepOF c.P w' (2*i) a m' v->EnvS c w' (Mine.put σ i (some (.o cl (Zlx a m' fs)))):=λm' rm=>EnvS.set S Zdm I k1
  ⟨x,d,es,n,rfl,(k none nofun _ y1).1,(k none nofun _ y2).1,(k none nofun _ y1).2.trans z1,(k none nofun _ y2).2.trans z2,rd.put S.zsub (λy hy=>k _ λe=>hy (Option.some.inj e)) hm λv' e=>one e▸rm⟩
 have e:Zez σ o' (.fd (.v i) a)=(Zzm a o' (.o cl fs)).map λu=>Mine.put σ i (some u):=by
  show Ziz σ o' i a=_
  rw[Ziz,hk];rfl
 refine Zp (e.symm.trans h) λu hu e=>e▸?_
 cases o' with
 |f m=>exact Option.some.inj hu▸fin (.f m) r
 |l m=>exact Option.some.inj hu▸fin (.l m) r
 |o _ _=>exact r.elim
theorem ZRe(I:EnvS c w σ){i:Nat}{l:List MV}(hk:nth σ i=some (some (.l l)))(hv:c.vl w i=some v):Loc c w σ (.v i) l v i none:=by
 obtain⟨u,h1,h2⟩:=I i _ hk
 refine⟨Option.some.inj (h1.symm.trans hv)▸h2,λ{w' o' σ'} S k r h=>Zp h λy _ e=>e▸EnvS.set S Zdm I hv ?_⟩
 cases o' with
 |o _ _=>exact r.elim
 |_=>exact r
theorem ZAh(I:EnvS c w σ){p:Pa}{l:List MV}(hp:pk p σ=some (.l l))(hv:PV c w p v):∃t x,Loc c w σ p l v t x:=by
 cases p with
 |v i=>exact⟨i,none,ZRe I (Zjg hp) hv⟩
 |g j=>exact Zp (show(nth Xw j).map (λp=>OV.f p.2)=some (.l l)from hp) λy _ e=>f_l e
 |fd q a=>
  refine Zh (show(pk q σ).bind (Ui · a)=some (.l l)from hp) λo1 h1 h2=>?_
  obtain⟨cl,fs,m,rfl,hm,rfl⟩:=ZBd h2
  cases q with
  |v i=>exact⟨i,_,ZLj I (Zjg h1) hm hv⟩
  |g j=>exact Zp (show(nth Xw j).map (λp=>OV.f p.2)=some (.o cl fs)from h1) λy _ e=>f_o e
  |fd q' b=>exact Zh (show(pk q' σ).bind (Ui · b)=some (.o cl fs)from h1) λ_ _ e=>(Zjy e).elim
end
end
section
set_option backward.match.sparseCases true
open PySem.Calls
structure OkE(c:Cx)(E:Prop)(N:Nat)(e:Expr)(x:CE):Prop where
 v:GV c E (eval e c.env) ((mg N x).e E)
 t:GT c E (isTrue e c.env (eval e c.env)) ((mg N x).e E)
section
variable{c:Cx}{sc:Sc}{E:Prop}{N:Nat}{e:Expr}{x y z:CE}
theorem OkE.bad:OkE c E N e .bad:=⟨λ_ _ _ _ h=>h.elim,λ_ _ _ _ h=>h.elim⟩
theorem OkE.plain(B:Blk c sc)(h:GV c E (eval e c.env) ((mg N x).e E))(hp:isTrue e c.env (eval e c.env)=(do let v <- eval e c.env;standAt e.pos;holding [v] (truthy v))):OkE c E N e x:=
 ⟨h,λσ Q w Γ t I Qv Ev K R=>isTrue_plain (h t I (λw v o σ q I=>(Zyz q).elim λb q=>by
  have r:=I.st.1
  rw[q.1]at r
  rw[show v=.bool b from r]
  exact wpAny_truthy_bool (K w b σ q.2 I.pop)) R) hp⟩
theorem Zlg{j t:Nat}(h:2*j+1=2*t):False:=absurd ((Nat.mul_add_mod 2 j 1).symm.trans ((congrArg (· % 2) h).trans (Nat.mul_mod_right 2 t))) (by decide)
theorem Inv.turn(B:Blk c sc){w w':Wd}{σ σ':Sg}{Γ:List En}{t:Nat}(I:Inv c w σ Γ)(S:Stp c (·=2*t) w w')(h:EnvS c w' σ'):Inv c w' σ' Γ:=⟨S.iv B.toBeg I.iv,h,S.stOk (λ_ _=>Zlg) I.st⟩
noncomputable def Atm(c:Cx)(e:Expr)(T:Sg->(OV->Sg->Prop)->Prop):Prop:=∀⦃σ:Sg⦄ ⦃Q:OV->Sg->Prop⦄ ⦃w:Wd⦄ ⦃Γ:List En⦄,T σ Q->Inv c w σ Γ->∃m σ' w',w'.s=w.s/\Q (.f m) σ'/\Inv c w' σ' Γ/\
 ∀{tk:Nat} {Qv:Value->Shared->Prop} {Ev:Value->Shared->Prop},(∀v t,RepF c.P w'.Z m v->Qv v {w.s with toks:=t})->wpAny c.M c.A (eval e c.env) Qv Ev {w.s with toks:=tk}
theorem Atm.gv(B:Blk c sc){T:Sg->(OV->Sg->Prop)->Prop}(h:Atm c e T):GV c E (eval e c.env) T:=λσ Q w Γ q I Qv Ev K R=>by
 obtain⟨m,σ',w',e,q,I,go⟩:=h q I
 exact go (tk:=w.s.toks) λv t r=>by rw[<- e];exact K {w' with s:={w'.s with toks:=t}} v _ σ' q ((I.tok B.toBeg t).put r)
theorem ZCl(B:Blk c sc){p:Pa}{n:Nat}(h:pth sc c.xs n e=some p):Atm c e ((mg N (.rd p)).e E):=λσ Q w Γ q I=>by
 have q:rdP p σ Q:=q
 unfold rdP at q
 cases hp:pk p σ with
 |none=>rw[hp]at q;exact q.elim
 |some o=>
  rw[hp]at q
  obtain⟨v,k⟩:=Yq B I h hp
  cases o with
  |f m=>exact⟨m,σ,w,rfl,q,I,λK=>k.go λt=>K v t k.rd⟩
  |l l=>
   obtain⟨σ',hq,q⟩:=Zo q
   obtain⟨t,x,L⟩:=ZAh I.en hp k.pv
   have S:Stp c (·=2*t) w (fz w (ZKn (2*t,x))):=.fz I.iv λq e=>by rw[beq_iff_eq.mp e]
   have r:RepF c.P (fz w (ZKn (2*t,x))).Z (.lst l) v:=L.r.e (G:=RepF c.P (fz w (ZKn (2*t,x))).Z (.lst l)) λa vs n z g r h=>⟨a,vs,n,rfl,(ZFo (p:=ZKn (2*t,x)) z (beq_self_eq_true _)).trans g,r.mono S.zsub,h⟩
   exact⟨.lst l,σ',fz w (ZKn (2*t,x)),rfl,Yy q,I.turn B S (L.put (o':=.f (.lst l)) S (λy hy b e=>⟨Zsq e (beq_eq_false_iff_ne.mpr λz=>hy (Prod.mk.inj z).2),rfl⟩) r hq),λK=>k.go λtk=>K v tk r⟩
  |o cl fs=>
   obtain⟨σ',hq,q⟩:=Zo q
   cases p with
   |v i=>
    refine Zp (show(kn (nth σ i)).map (λ_=>put σ i (some (.f (OV.frz (.o cl fs)))))=some σ' from hq) λ_ _ e=>?_
    subst e
    obtain⟨u,h1,h2⟩:=I.en i _ (Zjg hp)
    have S:Stp c (·=2*i) w (fz w (ZBe (2*i))):=.fz I.iv (Zuh (P:=(·=2*i)) rfl)
    have r:=RepO.fr I.iv h2
    exact⟨OV.frz (.o cl fs),_,fz w (ZBe (2*i)),rfl,Yy q,I.turn B S (EnvS.set (o:=.f (OV.frz (.o cl fs))) S Zdm I.en h1 r),λK=>k.go λt=>K v t (Option.some.inj (h1.symm.trans k.pv)▸r)⟩
   |g j=>exact Zp (show(nth Xw j).map (λp=>OV.f p.2)=some (.o cl fs)from hp) λy _ e=>f_o e
   |fd u a=>exact Zh (show(pk u σ).bind (Ui · a)=some (.o cl fs)from hp) λ_ _ e=>(Zjy e).elim
noncomputable def ZMz(c:Const):CE:=match c with
 | .none=>.k .none
 | .bool b=>.k (.bool b)
 | .int i=>.k (.int i)
 | .str s=>.k (.str s)
 |_=>.bad
theorem ZAz{cst:Const}{k:Nat}{pos:Pos}:Atm c (.Constant cst k pos) ((mg N (ZMz cst)).e E):=λσ Q w Γ q I=>by
 cases cst with
 |none=>exact⟨.none,σ,w,rfl,q,I,λ{tk Qv Ev} K=>(wpAny_pure (K .none tk rfl):wpAny c.M c.A (pure Value.none) Qv Ev _)⟩
 |bool b=>exact⟨.bool b,σ,w,rfl,q,I,λ{tk Qv Ev} K=>(wpAny_pure (K (.bool b) tk rfl):wpAny c.M c.A (pure (Value.bool b)) Qv Ev _)⟩
 |int i=>exact⟨.int i,σ,w,rfl,q,I,λK=>wpAny_Constant_int (K _ _ ⟨_,rfl⟩)⟩
 |str i=>exact⟨.str i,σ,w,rfl,q,I,λK=>Constant_str (K _ _ ⟨_,rfl⟩)⟩
 |_=>exact q.elim
theorem ZMy(B:Blk c sc){cst:Const}{k:Nat}{pos:Pos}:OkE c E N (.Constant cst k pos) (ZMz cst):=.plain B (ZAz.gv B) rfl
set_option backward.match.sparseCases false in
noncomputable def Zao(pt:Expr->Option Pa)(e:Expr):Option CE:=match e with
 | .Constant c _ _=>some (ZMz c)
 |e=>(pt e).map .rd
theorem Zga(B:Blk c sc){n:Nat}(h:Zao (pth sc c.xs n) e=some x):Atm c e ((mg N x).e E):=by
 have go:(pth sc c.xs n e).map CE.rd=some x->Atm c e ((mg N x).e E):=λh=>Zp h λp h q=>q▸ZCl B h
 cases e with
 |Constant cst k pos=>exact Option.some.inj (show some (ZMz cst)=some x from h)▸ZAz
 |_=>exact go h
theorem ZNo(B:Blk c sc){l r:Expr}{op:Operator}{pos:Pos}(hl:OkE c E N l x)(hr:OkE c E N r y):OkE c E N (.BinOp l op r pos) (.bin op x y):=.plain B (λσ Q w Γ q I Qv Ev K R=>by
 rw[eval_BinOp]
 refine wpAny_bind (hl.v q I (λw a o σ q I=>wpAny_bind (wpAny_holding (hr.v q (I.frz B.toBeg) (λw b u σ q I=>?_) R))) R)
 obtain⟨t,h,q⟩:=Zo (Ye (Ye q))
 have I:=I.frz B.toBeg
 exact wpAny_bind (wpAny_standAt (wpAny_operate' (Zwd (w:=fz w _) B.toBeg I.pop.pop I.st.2.1 I.st.1 h λw v I=>K w v _ σ q I)))) rfl
noncomputable def unC(op:UnaryOp)(x:CE):CE:=match op with
 | .Not=>.not x
 | .USub=>.neg x
 |_=>.bad
theorem ZPj(B:Blk c sc){op:UnaryOp}{a:Expr}{pos:Pos}(hx:OkE c E N a x):OkE c E N (.UnaryOp op a pos) (unC op x):=by
 cases op with
 |Not=>
  refine⟨λσ Q w Γ q I Qv Ev K R=>wpAny_UnaryOp (hx.v q I (λw v o σ q I=>(Zyz q).elim λb q=>?_) R),λσ Q w Γ q I Qv Ev K R=>?_⟩
  .have r:=I.st.1
   rw[q.1]at r
   rw[show v=.bool b from r]
   exact not_value (wpAny_truthy_bool (K w _ _ σ q.2 (I.pop.put rfl)))
  .show wpAny c.M c.A (do return !(<- isTrue a c.env (eval a c.env))) Qv Ev w.s
   exact wpAny_bind (hx.t q I (λw b σ q I=>wpAny_pure (K w _ σ q I)) R)
 |USub=>
  refine .plain B (λσ Q w Γ q I Qv Ev K R=>wpAny_UnaryOp (hx.v q I (λw v o σ q I=>(ZFc q).elim λb q=>?_) R)) rfl
  have r:=I.st.1
  rw[q.1]at r
  have r:RepF c.P w.Z (.int b) v:=r
  exact RepF.int_e (G:=λv=>wpAny c.M c.A (unaryOp .USub v) Qv Ev w.s) r λt=>PyProof.Rows.neg_int (K _ _ _ σ q.2 ((I.pop.tok B.toBeg _).put ⟨_,rfl⟩))
 |_=>exact .bad
theorem ZLz{t b o:Expr}{pos:Pos}(ht:OkE c E N t x)(hb:OkE c E N b y)(ho:OkE c E N o z):OkE c E N (.IfExp t b o pos) (.ife x y z):=by
 refine⟨λσ Q w Γ q I Qv Ev K R=>IfExp_ (ht.t (Q:=λb σ=>onB ((mg N y).e E σ Q) ((mg N z).e E σ Q) b) q I (λw v σ q I=>?_) R),λσ Q w Γ q I Qv Ev K R=>isTrue_IfExp (ht.t (Q:=λb σ=>onB ((mg N y).e E σ _) ((mg N z).e E σ _) b) q I (λw v σ q I=>?_) R)⟩
 .cases v with
  |true=>exact hb.v q I K R
  |false=>exact ho.v q I K R
 .cases v with
  |true=>exact hb.t q I K R
  |false=>exact ho.t q I K R
noncomputable def Zid(op:BoolOp)(f:Expr->CE):List Expr->CE
 | []=>.bad
 |e::r=>match r with
  | []=>f e
  |r=>match op with
   | .And=>.and (f e) (Zid op f r)
   | .Or=>.or (f e) (Zid op f r)
theorem Zmj{op:BoolOp}{f:Expr->CE}{pos:Pos}(hf:∀e,OkE c E N e (f e))(es:List Expr):GV c E (boolOp pos op (evalEach es c.env)) ((mg N (Zid op f es)).e E)/\GT c E (allTrue op es c.env) ((mg N (Zid op f es)).e E):=by
 induction es with
 |nil=>exact⟨λ_ _ _ _ h=>h.elim,λ_ _ _ _ h=>h.elim⟩
 |cons e t ih=>cases t with
  |nil=>
   refine⟨(hf e).v,λσ Q w Γ q I Qv Ev K R=>?_⟩
   cases op with
   |And=>refine wpAny_allTrue_And_cons ((hf e).t q I (λw b σ q I=>?_) R);cases b;exact K w _ σ q I;exact wpAny_allTrue_And_nil (K w _ σ q I)
   |Or=>refine wpAny_allTrue_Or_cons ((hf e).t q I (λw b σ q I=>?_) R);cases b;exact wpAny_allTrue_Or_nil (K w _ σ q I);exact K w _ σ q I
  |cons e₂ r=>
   cases op with
   |And=>
    refine⟨λσ Q w Γ q I Qv Ev K R=>?_,λσ Q w Γ q I Qv Ev K R=>?_⟩
    .show wpAny c.M c.A (do
      let v <- eval e c.env
      standAt pos
      let t <- holding [v] (truthy v)
      match BoolOp.And,t with
      | .And,false| .Or,true=>pure v
      |_,_=>boolOp pos .And (evalEach (e₂::r) c.env)) Qv Ev w.s
     refine wpAny_bind ((hf e).v q I (λw v o σ q I=>wpAny_bind (wpAny_standAt (wpAny_bind (wpAny_holding ?_)))) R)
     obtain⟨b,rfl,q⟩:=Zyz q
     rw[show v=.bool b from I.st.1]
     refine wpAny_truthy_bool ?_
     cases b with
     |false=>exact wpAny_pure (K w _ _ σ q (I.pop.put rfl))
     |true=>exact ih.1 q I.pop K R
    .show wpAny c.M c.A (do match BoolOp.And,<- isTrue e c.env (eval e c.env)with| .And,false=>pure false| .Or,true=>pure true|_,_=>allTrue .And (e₂::r) c.env) Qv Ev w.s
     refine wpAny_bind ((hf e).t (Q:=λb σ=>onB ((mg N (Zid .And f (e₂::r))).e E σ _) _ b) q I (λw b σ q I=>?_) R)
     cases b with
     |false=>exact wpAny_pure (K w _ σ q I)
     |true=>exact ih.2 q I K R
   |Or=>
    refine⟨λσ Q w Γ q I Qv Ev K R=>?_,λσ Q w Γ q I Qv Ev K R=>?_⟩
    .show wpAny c.M c.A (do
      let v <- eval e c.env
      standAt pos
      let t <- holding [v] (truthy v)
      match BoolOp.Or,t with
      | .And,false| .Or,true=>pure v
      |_,_=>boolOp pos .Or (evalEach (e₂::r) c.env)) Qv Ev w.s
     refine wpAny_bind ((hf e).v q I (λw v o σ q I=>wpAny_bind (wpAny_standAt (wpAny_bind (wpAny_holding ?_)))) R)
     obtain⟨b,rfl,q⟩:=Zyz q
     rw[show v=.bool b from I.st.1]
     refine wpAny_truthy_bool ?_
     cases b with
     |true=>exact wpAny_pure (K w _ _ σ q (I.pop.put rfl))
     |false=>exact ih.1 q I.pop K R
    .show wpAny c.M c.A (do match BoolOp.Or,<- isTrue e c.env (eval e c.env)with| .And,false=>pure false| .Or,true=>pure true|_,_=>allTrue .Or (e₂::r) c.env) Qv Ev w.s
     refine wpAny_bind ((hf e).t (Q:=λb σ=>onB _ ((mg N (Zid .Or f (e₂::r))).e E σ _) b) q I (λw b σ q I=>?_) R)
     cases b with
     |true=>exact wpAny_pure (K w _ σ q I)
     |false=>exact ih.2 q I K R
theorem ZGu{op:BoolOp}{f:Expr->CE}{pos:Pos}{es:List Expr}(hf:∀e,OkE c E N e (f e)):OkE c E N (.BoolOp op es pos) (Zid op f es):=
 ⟨(Zmj hf es).1,λσ Q w Γ q I Qv Ev K R=>wpAny_isTrue_BoolOp ((Zmj (pos:=pos) hf es).2 q I K R)⟩
end
end
section
open PySem.Calls
noncomputable def ZTv(op:CmpOp):Bool:=match op with
 | .In=>true
 | .NotIn=>true
 |_=>false
noncomputable def ZEq(pt:Expr->Option Pa)(f:Expr->CE)(op:CmpOp)(e:Expr):CE:=if behindInMarks op e=true then .bad else match(if ZTv op=true then pt e else none)with
 |some p=>.cp op p
 |none=>.c1 op (f e)
noncomputable def Zvi(pt:Expr->Option Pa)(f:Expr->CE):List CmpOp->List Expr->CE
 | [],_=>.bad
 |op::ops,es=>match es with
  | []=>.bad
  |e::es=>match ops with
   | []=>(match es with| []=>ZEq pt f op e|_=>.bad)
   |ops=>(match es with| []=>.bad|es=>.c2 op (f e) (Zvi pt f ops es))
theorem Rd.tok{P:Px}{w:Wd}{o:OV}{v:Value}(r:Rd P w o v)(t:Nat):Rd P {w with s:={w.s with toks:=t}} o v:=by
 cases o with
 |o cl fs=>exact r.elim λk r=>⟨k,RepO.keep (w:=w) (w':={w with s:={w.s with toks:=t}}) (λ_ _ e=>e) (λ_ _ e=>⟨e,rfl⟩) r⟩
 |_=>exact r
section
variable{c:Cx}{sc:Sc}{E:Prop}{N:Nat}{e:Expr}{x y z:CE}{n:Nat}{f:Expr->CE}
theorem Zrp(B:Blk c sc)(hu:c.A.units+100 < cLine)(hf:OkE c E N e (f e)){op:CmpOp}{m:MV}{a:Value}{σ:Sg}{Q:OV->Sg->Prop}{w:Wd}{Γ:List En}{Qb:Bool->Shared->Prop}{Ev:Value->Shared->Prop}
  (h:(mg N (ZEq (pth sc c.xs n) f op e)).c E m σ Q)(I:Inv c w σ (.o (.f m) a::Γ))(K:∀w' b σ',Q (.f (.bool b)) σ'->Inv c w' σ' Γ->Qb b w'.s)(R:Er c E Ev):
  behindInMarks op e=false/\wpAny c.M c.A (eval e c.env) (λrv s=>wpAny c.M c.A (compareOp op a rv) (λr s=>∃b,r=.bool b/\Qb b s) Ev s) Ev w.s:=by
 unfold ZEq at h
 by_cases hb:behindInMarks op e=true
 .rw[if_pos hb]at h;exact h.elim
 .rw[if_neg hb]at h
  refine⟨Bool.eq_false_iff.mpr hb,?_⟩
  have one:(mg N (.c1 op (f e))).c E m σ Q->wpAny c.M c.A (eval e c.env) (λrv s=>wpAny c.M c.A (compareOp op a rv) (λr s=>∃b,r=.bool b/\Qb b s) Ev s) Ev w.s:=λh=>
   hf.v h I (λw rv o σ h I=>(Zo h).elim λb h=>Zey I.iv hu I.st.2.1 (RepO.rd I.st.1) h.1 λt=>⟨b,rfl,K _ _ σ h.2 (I.pop.pop.tok B.toBeg t)⟩) R
  by_cases hi:ZTv op=true
  .rw[if_pos hi]at h
   cases hp:pth sc c.xs n e with
   |none=>rw[hp]at h;exact one h
   |some p=>
    rw[hp]at h
    obtain⟨o,h1,h⟩:=Zo (show onS (λy=>onS (λb=>Q (.f (.bool b)) σ) (Ym op m y)) (pk p σ)from h)
    obtain⟨b,h2,h⟩:=Zo h
    obtain⟨v,k⟩:=Yq B I hp h1
    exact k.go (tk:=w.s.toks) λt=>Zey (w:={w with s:={w.s with toks:=t}}) (I.tok B.toBeg t).iv hu I.st.1 (k.rd.tok t) h2 λt=>⟨b,rfl,K {w with s:={w.s with toks:=t}} _ σ h (I.pop.tok B.toBeg t)⟩
  .rw[if_neg hi]at h;exact one h
theorem Zox(B:Blk c sc)(hu:c.A.units+100 < cLine)(hf:∀e,OkE c E N e (f e)){pos:Pos}{ops:List CmpOp}:∀{es:List Expr} {m:MV} {a:Value} {σ:Sg} {Q:OV->Sg->Prop} {w:Wd} {Γ:List En},
  (mg N (Zvi (pth sc c.xs n) f ops es)).c E m σ Q->Inv c w σ (.o (.f m) a::Γ)->∀{Ev:Value->Shared->Prop},Er c E Ev->
  (∀{Qv:Value->Shared->Prop},(∀w' v o σ',Q o σ'->Inv c w' σ' (.o o v::Γ)->Qv v w'.s)->wpAny c.M c.A (compareChain pos a ops (markedEach ops es (evalEach es c.env))) Qv Ev w.s)/\
  (∀{Qb:Bool->Shared->Prop},(∀w' b σ',Q (.f (.bool b)) σ'->Inv c w' σ' Γ->Qb b w'.s)->wpAny c.M c.A (testChain pos a ops (markedEach ops es (evalEach es c.env))) Qb Ev w.s):=by
 induction ops with
 |nil=>exactλh=>h.elim
 |cons op ops ih=>
  intro es m a σ Q w Γ h I Ev R
  cases es with
  |nil=>exact h.elim
  |cons e es=>
   cases ops with
   |nil=>
    cases es with
    |cons _ _=>exact h.elim
    |nil=>
     refine⟨λ{Qv} K=>?_,λ{Qb} K=>?_⟩
     .have q:=Zrp B hu (hf e) h I (Qb:=λb s=>Qv (.bool b) s) (λw b σ h I=>K w _ _ σ h (I.put rfl)) R
      show wpAny c.M c.A (do let rv <- holding [a] (markedBehindIn op e (eval e c.env));standAt pos;operate [a,rv] (compareOp op a rv)) Qv Ev w.s
      rw[markedBehindIn_of_false q.1]
      exact wpAny_bind (wpAny_holding (wpAny_mono q.2 (λb s h=>wpAny_bind (wpAny_standAt (wpAny_operate' (wpAny_mono h (λr s h=>h.elim λb h=>h.1▸h.2) λ_ _ x=>x)))) λ_ _ x=>x))
     .have q:=Zrp B hu (hf e) h I K R
      show wpAny c.M c.A (do let rv <- holding [a] (markedBehindIn op e (eval e c.env));standAt pos;let c' <- operate [a,rv] (compareOp op a rv);holding [c'] (truthy c')) Qb Ev w.s
      rw[markedBehindIn_of_false q.1]
      exact wpAny_bind (wpAny_holding (wpAny_mono q.2 (λb s h=>wpAny_bind (wpAny_standAt (wpAny_bind (wpAny_operate' (wpAny_mono h (λr s h=>h.elim λb h=>h.1▸wpAny_holding (wpAny_truthy_bool h.2)) λ_ _ x=>x))))) λ_ _ x=>x))
   |cons op2 ops=>
    cases es with
    |nil=>exact h.elim
    |cons e2 es=>
     have mid:∀{β:Type} {k:Value->Value->Bool->Sem β} {Qv:β->Shared->Prop},(∀w rv y σ b,onB ((mg N (Zvi (pth sc c.xs n) f (op2::ops) (e2::es))).c E y σ Q) (Q (.f (.bool false)) σ) b->Inv c w σ (.o (.f y) rv::Γ)->wpAny c.M c.A (k rv (.bool b) b) Qv Ev w.s)->
       wpAny c.M c.A (do
        let rv <- holding [a] (eval e c.env)
        standAt pos
        let c' <- holding [a,rv] (compareOp op a rv)
        release [a,rv] [c']
        let t <- holding [c',rv] (truthy c')
        k rv c' t) Qv Ev w.s:=λ{β k Qv} H=>
      wpAny_bind (wpAny_holding ((hf e).v h I (λw rv o σ h I=>by
       obtain⟨b,h1,h⟩:=Zo (Ye h)
       have I:=I.frz B.toBeg
       refine wpAny_bind (wpAny_standAt (wpAny_bind (wpAny_holding (Zey (w:=fz w _) I.iv hu I.st.2.1 (o:=.f o.frz) I.st.1 h1 λt=>wpAny_bind (wpAny_release (wpAny_bind (wpAny_holding (wpAny_truthy_bool ?_))))))))
       exact H {fz w _ with s:={w.s with toks:=t}} rv _ σ b h ((I.pop.pop.put I.st.1).tok B.toBeg t)) R))
     refine⟨λ{Qv} K=>mid (k:=λrv c' t=>if t then compareChain pos rv (op2::ops) (markedEach (op2::ops) (e2::es) (evalEach (e2::es) c.env))else pure c') λw rv y σ b h I=>?_,
      λ{Qb} K=>mid (k:=λrv c' t=>if t then testChain pos rv (op2::ops) (markedEach (op2::ops) (e2::es) (evalEach (e2::es) c.env))else pure false) λw rv y σ b h I=>?_⟩
     .cases b with
      |true=>exact(ih h I R).1 K
      |false=>exact wpAny_pure (K w _ _ σ h (I.pop.put rfl))
     .cases b with
      |true=>exact(ih h I R).2 K
      |false=>exact wpAny_pure (K w _ σ h I.pop)
noncomputable def ZUg(pt:Expr->Option Pa)(f:Expr->CE)(l:Expr)(ops:List CmpOp)(es:List Expr):CE:=.cmp (f l) (Zvi pt f ops es)
theorem ZNe(B:Blk c sc)(hu:c.A.units+100 < cLine)(hf:∀e,OkE c E N e (f e)){pos:Pos}{l:Expr}{ops:List CmpOp}{es:List Expr}:OkE c E N (.Compare l ops es pos) (ZUg (pth sc c.xs n) f l ops es):=by
 refine⟨λσ Q w Γ q I Qv Ev K R=>?_,λσ Q w Γ q I Qv Ev K R=>?_⟩
 .show wpAny c.M c.A (do compareChain pos (<- eval l c.env) ops (markedEach ops es (evalEach es c.env))) Qv Ev w.s
  exact wpAny_bind ((hf l).v q I (λw v o σ q I=>(Zox B hu hf (Ye q) (I.frz B.toBeg) R).1 K) R)
 .show wpAny c.M c.A (do testChain pos (<- eval l c.env) ops (markedEach ops es (evalEach es c.env))) Qv Ev w.s
  exact wpAny_bind ((hf l).v q I (λw v o σ q I=>(Zox B hu hf (Ye q) (I.frz B.toBeg) R).2 K) R)
noncomputable def Xs(f:Expr->CE):List Expr->CE
 | []=>.nil
 |e::r=>.cons (f e) (Xs f r)
set_option backward.match.sparseCases true in
noncomputable def Zd:Expr->Bool
 | .Starred ..=>true
 |_=>false
theorem Zz{e:Expr}{r:List Expr}{env:Env}(h:Zd e=false):starEach (e::r) env=(false,eval e env)::starEach r env:=by
 cases e with
 |Starred _ _=>exact nf h.symm
 |_=>rfl
noncomputable def Zdj(os:List OV)(vs:List Value):List En:=(List.zipWith En.o os vs).reverse
noncomputable abbrev GL(c:Cx)(E:Prop)(n:Nat)(tree:Sem (List Value))(T:Sg->(List OV->Sg->Prop)->Prop):Prop:=∀⦃σ:Sg⦄ ⦃Q:List OV->Sg->Prop⦄ ⦃w:Wd⦄ ⦃Γ:List En⦄,T σ Q->Inv c w σ Γ->∀⦃Qv:List Value->Shared->Prop⦄ ⦃Ev:Value->Shared->Prop⦄,
 (∀w' vs os σ',vs.length=os.length->os.length=n->Q os σ'->Inv c w' σ' (Zdj os vs++Γ)->Qv vs w'.s)->Er c E Ev->wpAny c.M c.A tree Qv Ev w.s
theorem Ja{pos:Pos}(hf:∀e,OkE c E N e (f e)){es:List Expr}(hs:es.any Zd=false):GL c E es.length (spliced (backTo pos (starEach es c.env))) ((mg N (Xs f es)).l E):=by
 induction es with
 |nil=>exactλσ Q w Γ q I Qv Ev K R=>spliced_nil (K w [] [] σ rfl rfl q I)
 |cons e r ih=>
  intro σ Q w Γ q I Qv Ev K R
  have hs:=Bool.or_eq_false_iff.mp (show(Zd e||r.any Zd)=false from hs)
  rw[Zz hs.1]
  refine spliced_cons ((hf e).v q I (λw v o σ q I=>ih hs.2 q I (λw vs os σ hl hn q I=>K w (v::vs) (o::os) σ (congrArg (·+1) hl) (congrArg (·+1) hn) q ?_) R) R)
  show Inv c w σ ((En.o o v::List.zipWith En.o os vs).reverse++Γ)
  rw[List.reverse_cons,List.append_assoc]
  exact I
open Classical in
noncomputable def upT(n:Nat)(q:Tg):Bool:=decide (Up n q.1)
theorem Zxz{w:Wd}{k:Nat}(I:Iv c w){os:List OV}:∀{vs:List Value} {Γ:List En},k<=Γ.length->vs.length=os.length->StOk c w (Zdj os vs++Γ)->StOk c w Γ/\RepFs c.P (fz w (upT k)).Z (os.map OV.frz) vs:=by
 induction os with
 |nil=>
  intro vs Γ hk hl h
  rw[List.eq_nil_of_length_eq_zero hl]at h⊢
  exact⟨h,rfl⟩
 |cons o os ih=>
  intro vs Γ hk hl h
  cases vs with
  |nil=>exact Nat.noConfusion hl
  |cons v vs=>
   have h:StOk c w ((En.o o v::List.zipWith En.o os vs).reverse++Γ):=h
   rw[List.reverse_cons,List.append_assoc]at h
   have q:=ih (Γ:=.o o v::Γ) (Nat.le_succ_of_le hk) (Nat.succ.inj hl) h
   exact⟨q.1.2,.cons (RepO.frz (Zsp I) (λb x e=>ZFo e (@decide_eq_true _ (Classical.propDecidable _) ⟨_,hk,rfl⟩)) q.1.1) q.2⟩
theorem Inv.frzs(B:Beg c){w:Wd}{σ:Sg}{Γ:List En}{os:List OV}{vs:List Value}(I:Inv c w σ (Zdj os vs++Γ))(hl:vs.length=os.length):∃w',w'.s=w.s/\Inv c w' σ Γ/\RepFs c.P w'.Z (os.map OV.frz) vs:=by
 have q:=Zxz I.iv (Nat.le_refl _) hl I.st
 exact⟨fz w (upT Γ.length),rfl,Inv.next B ⟨I.iv,I.en,q.1⟩ (.fz I.iv λq e=>@of_decide_eq_true _ (Classical.propDecidable _) e),q.2⟩
theorem Zee:∀{vs:List OV} {K:List MV->Prop},Znq vs K->K (vs.map OV.frz)
 | [],_,h=>h
 |v::r,K,h=>Zee (vs:=r) (Ye (show Zdi (λm=>Znq r λms=>K (m::ms)) v from h))
noncomputable def Znz(mk:CE->CE)(f:Expr->CE)(es:List Expr):CE:=if Zb < es.length\/es.any Zd=true then .bad else mk (Xs f es)
theorem Ztk{mk:CE->CE}{es:List Expr}{E:Prop}{σ:Sg}{Q:OV->Sg->Prop}(h:(mg N (Znz mk f es)).e E σ Q):es.length<=Zb/\es.any Zd=false/\(mg N (mk (Xs f es))).e E σ Q:=by
 unfold Znz at h
 by_cases q:Zb < es.length\/es.any Zd=true
 .rw[if_pos q]at h;exact h.elim
 .rw[if_neg q]at h
  exact⟨Nat.le_of_not_lt λk=>q (.inl k),Bool.eq_false_iff.mpr λk=>q (.inr k),h⟩
theorem ZLi(B:Blk c sc)(hf:∀e,OkE c E N e (f e)){es:List Expr}{pos:Pos}:OkE c E N (.List es pos) (Znz .lst f es):=.plain B (λσ Q w Γ q I Qv Ev K R=>by
 obtain⟨hl,hs,q⟩:=Ztk q
 refine List_ (Ja (Q:=λvs σ=>Znq vs λms=>Q (.l ms) σ) hf hs q I (λw vs os σ hv hn q I=>?_) R)
 obtain⟨w',e,I,r⟩:=I.frzs B.toBeg hv
 rw[<- e]
 have hm:(os.map OV.frz).length<=Zb:=by rw[List.length_map,hn];exact hl
 exact wpAny_newObj_type (K _ _ _ σ (Zee q) (I.newlist B.toBeg (λ_ _ e=>e) w'.s.toks 0 r hm)) (show vs.toArray.size<=_ by rw[List.size_toArray,hv,hn];exact Nat.le_trans hl (by decide))) rfl
theorem ZIh(B:Blk c sc)(hf:∀e,OkE c E N e (f e)){es:List Expr}{k:Nat}{pos:Pos}:OkE c E N (.Tuple es k pos) (Znz .tup f es):=.plain B (λσ Q w Γ q I Qv Ev K R=>by
 obtain⟨hl,hs,q⟩:=Ztk q
 refine Tuple_ (Ja (Q:=λvs σ=>Znq vs λms=>Q (.f (.tup ms)) σ) hf hs q I (λw vs os σ hv hn q I=>?_) R)
 obtain⟨w',e,I,r⟩:=I.frzs B.toBeg hv
 rw[<- e]
 have hm:(os.map OV.frz).length<=Zb:=by rw[List.length_map,hn];exact hl
 exact wpAny_newObj_type (K _ _ _ σ (Zee q) (I.newtup B.toBeg (λ_ _ e=>e) w'.s.toks 0 r hm)) (show vs.toArray.size<=_ by rw[List.size_toArray,hv,hn];exact Nat.le_trans hl (by decide))) rfl
end
end
section
open PySem.Calls
theorem Zji{k:Int}{n i:Nat}(h:idx k n=some i):seqIndex? k n=some i/\i < n/\((0<=k/\k.toNat=i)\/(k < 0/\(k+n).toNat=i/\0<=k+n)):=by
 unfold idx at h
 unfold seqIndex?
 by_cases h0:0<=k
 .rw[if_pos h0]at h
  obtain⟨q,rfl⟩:=Zak h
  rw[if_neg (Int.not_lt.mpr h0)]
  exact⟨if_pos (by rw[decide_eq_true h0,decide_eq_true ((Int.toNat_lt h0).mp q)];rfl),q,.inl ⟨h0,rfl⟩⟩
 .rw[if_neg h0]at h
  obtain⟨q,rfl⟩:=Zak h
  have hk:=Int.not_le.mp h0
  have lt:k+n < n:=Int.lt_of_lt_of_le (Int.add_lt_add_right hk n) (Int.le_of_eq (Int.zero_add _))
  rw[if_pos hk]
  exact⟨if_pos (by rw[decide_eq_true q,decide_eq_true lt];rfl),(Int.toNat_lt q).mpr lt,.inr ⟨hk,rfl,q⟩⟩
theorem Zsb{k:Int}{n i:Nat}(h:idx k n=some i)(hn:n<=Zb):-(n:Int)<=k/\-(2 ^ 63)<=k/\k < 2 ^ 63:=by
 have s:=Zji h
 have hn:(n:Int) < 2 ^ 63:=Int.lt_of_le_of_lt (Int.ofNat_le.mpr hn) (by decide)
 rcases s.2.2 with p|p
 .exact⟨Int.le_trans (Int.neg_nonpos_of_nonneg (Int.natCast_nonneg n)) p.1,Int.le_trans (by decide) p.1,Int.lt_trans ((Int.toNat_lt p.1).mp (p.2▸s.2.1)) hn⟩
 .have q:-(n:Int)<=k:=Int.sub_nonneg.mp (by rw[Int.sub_neg];exact p.2.2)
  exact⟨q,Int.le_trans (Int.neg_le_neg (Int.le_of_lt hn)) q,Int.lt_trans p.1 (by decide)⟩
noncomputable def Xi:Expr->Bool
 | .Slice ..=>false
 |_=>true
theorem Zbk{slice:Expr}(h:Xi slice=true)(o i:Value):subscripted slice false o i=operate [o,i] (PySem.getItem o i):=by
 cases slice with
 |Slice _ _ _ _=>exact nf h
 |_=>rfl
section
variable{c:Cx}{sc:Sc}{E:Prop}{N:Nat}{e:Expr}{x y z:CE}{n:Nat}{f:Expr->CE}{w:Wd}{m k:MV}{v i:Value}{o:OV}{value slice:Expr}
structure Zuv(c:Cx)(w:Wd)(value slice:Expr)(v i:Value)(m:MV)(u:Value):Prop where
 r:RepF c.P w.Z m u
 go:∀{Q:Value->Shared->Prop} {E:Value->Shared->Prop},(∀t,Q u {w.s with toks:=t})->wpAny c.M c.A (subscriptTail value slice v i) Q E w.s
theorem ZAm{vs:List MV}{k:MV}{m:MV}(h:Zea vs k=some m):∃j q,k=.int j/\idx j vs.length=some q/\vs[q]?=some m:=
 Zh h λj e h=>Zh h λq h1 h2=>⟨j,q,Zcw e,h1,h2⟩
theorem Zrf(hs:Xi slice=true){a:Addr}{us:List Value}{n:Nat}{l:List MV}(g:w.s.heap.get? a=some (Zaj us n))(r:RepFs c.P w.Z l us)(hl:l.length<=Zb)(h:Zea l k=some m)(ri:RepF c.P w.Z k i):∃u,Zuv c w value slice (.ref a) i m u:=by
 obtain⟨j,q,rfl,hi,hm⟩:=ZAm h
 refine ri.int_e (G:=λi=>∃u,Zuv c w value slice (.ref a) i m u) λt=>(r.get hm).elim λu hu=>⟨u,hu.2,λK=>?_⟩
 have hL:w.s.heap.IsList a us.toArray:=⟨_,g,rfl,n,rfl⟩
 have s:=Zji hi
 have len:=r.length
 refine tail_any hL.typeIs slot_list_getitem.lookup ?_ (Zbk hs _ _)
 rcases s.2.2 with p|p
 .exact wpAny_getItem_list hL p.1 (Zsb hi hl).2.2 (by rw[p.2];simpa using hu.1) (K w.s.toks)
 .exact wpAny_getItem_list_neg hL p.1 (by rw[List.size_toArray,len];exact(Zsb hi hl).1) (Zsb hi hl).2.1 (by rw[List.size_toArray,len,p.2.1];simpa using hu.1) (K w.s.toks)
theorem ZBp(hs:Xi slice=true){a:Addr}{us:List Value}{n:Nat}{l:List MV}(g:w.s.heap.get? a=some (Zuq us n))(r:RepFs c.P w.Z l us)(hl:l.length<=Zb)(h:Zea l k=some m)(ri:RepF c.P w.Z k i):∃u,Zuv c w value slice (.ref a) i m u:=by
 obtain⟨j,q,rfl,hi,hm⟩:=ZAm h
 refine ri.int_e (G:=λi=>∃u,Zuv c w value slice (.ref a) i m u) λt=>(r.get hm).elim λu hu=>⟨u,hu.2,λK=>?_⟩
 have hL:IsTup w.s.heap a us.toArray:=⟨_,g,rfl,n,rfl⟩
 have s:=Zji hi
 have len:=r.length
 exact tail_any hL.typeIs slot_tuple_getitem.lookup (getItem_tuple hL (Zsb hi hl).2.1 (Zsb hi hl).2.2 (by simpa [len] using s.1) (by simpa using hu.1) (K w.s.toks)) (Zbk hs _ _)
theorem Zep(hs:Xi slice=true)(I:Iv c w)(ro:Rd c.P w o v)(ri:RepF c.P w.Z k i)(h:Mine.getItem o k=some m):∃u,Zuv c w value slice v i m u:=by
 cases o with
 |o _ _=>exact ns h
 |l l=>exact ro.elim λt ro=>ro.elim λx ro=>ro.e (G:=λv=>∃u,Zuv c w value slice v i m u) λa us n _ g r hl=>Zrf hs g r hl h ri
 |f mo=>
  cases mo with
  |lst l=>exact RepF.lst_e (G:=λv=>∃u,Zuv c w value slice v i m u) ro λa us n g r hl=>Zrf hs (I.zok _ _ g) r hl h ri
  |tup l=>exact RepF.tup_e (G:=λv=>∃u,Zuv c w value slice v i m u) ro λa us n g r hl=>ZBp hs (I.zok _ _ g) r hl h ri
  |dct l=>
   refine RepF.dct_e (G:=λv=>∃u,Zuv c w value slice v i m u) ro λa es n _ g r=>ZIw (G:=λi=>∃u,Zuv c w value slice (.ref a) i m u) (show(Zii k).bind (λk=>Zhx k l)=some m from h) ri λy t h=>?_
   have hf:=r.find (x:=y)
   rw[h]at hf
   have hm:=RepK.map (c:=c) (I.zok _ _ g) r
   exact hf.elim λu hu=>⟨u,hu.2,λK=>tail_any hm.typeIs slot_dict_getitem.lookup (wpAny_getItem_of (strKind_is c.prog c.w y t) hm hu.1 (K _)) (Zbk hs _ _)⟩
  |_=>exact ns h
theorem ZBy(B:Blk c sc)(hs:Xi slice=true){pos:Pos}(hv:OkE c E N value x)(hi:OkE c E N slice y):OkE c E N (.Subscript value slice pos) (.subE x y):=.plain B (λσ Q w Γ q I Qv Ev K R=>
 Subscript_ (hv.v q I (λw v o σ q I=>hi.v q (I.frz B.toBeg) (λw i k σ q I=>by
  obtain⟨m,h,q⟩:=Zo (Ye (Ye q))
  have I:=I.frz B.toBeg
  exact(Zep (value:=value) (w:=fz w _) hs I.iv (o:=.f o.frz) I.st.2.1 I.st.1 h).elim λu k=>k.go λt=>K {fz w _ with s:={w.s with toks:=t}} u _ σ q ((I.pop.pop.tok B.toBeg t).put k.r)) R) R)) rfl
theorem ZBx(B:Blk c sc)(hs:Xi slice=true){pos:Pos}{j:Nat}(hp:pth sc c.xs n value=some (.v j))(hi:OkE c E N slice y):OkE c E N (.Subscript value slice pos) (.sub (.v j) y):=.plain B (λσ Q w Γ q I Qv Ev K R=>by
 obtain⟨o,h1,q⟩:=Zo q
 obtain⟨v,k⟩:=Yq B I hp h1
 have I':Inv c w σ (.al j v::Γ):=⟨I.iv,I.en,k.pv,I.st⟩
 refine Subscript_ (k.go (tk:=w.s.toks) λt=>hi.v q (I'.tok B.toBeg t) (λw i k σ q I=>?_) R)
 obtain⟨o,h2,q⟩:=Zo (Ye q)
 obtain⟨m,h,q⟩:=Zo q
 have I:=I.frz B.toBeg
 obtain⟨v',e,r⟩:=I.en j o (Zjg h2)
 have e:v'=v:=Option.some.inj (e.symm.trans I.st.2.1)
 exact(Zep (value:=value) (w:=fz w _) hs I.iv r.rd I.st.1 h).elim λu k=>e▸k.go λt=>K {fz w _ with s:={w.s with toks:=t}} u _ σ q ((I.pop.pop.tok B.toBeg t).put k.r)) rfl
theorem ZBz(B:Blk c sc)(hs:Xi slice=true){pos:Pos}{p:Pa}(hp:pth sc c.xs n value=some p)(hi:Atm c slice ((mg N y).e E)):OkE c E N (.Subscript value slice pos) (.sub p y):=.plain B (λσ Q w Γ q I Qv Ev K R=>by
 obtain⟨_,_,q⟩:=Zo q
 obtain⟨k,σ,w',e,q,I,go⟩:=hi q I
 obtain⟨o,h2,q⟩:=Zo (show onS _ (pk p σ)from q)
 obtain⟨m,h,q⟩:=Zo q
 obtain⟨v,kp⟩:=Yq B I hp h2
 have kg:=λ{Q E}=>kp.go (tk:=w'.s.toks) (Q:=Q) (E:=E)
 rw[<- e]
 rw[<- e]at go
 exact Subscript_ (kg λt=>go (tk:=t) λi t' r=>(Zep (value:=value) (w:={w' with s:={w'.s with toks:=t'}}) hs (I.tok B.toBeg t').iv (kp.rd.tok t') r h).elim λu g=>g.go λt=>K {w' with s:={w'.s with toks:=t}} u _ σ q ((I.tok B.toBeg t).put g.r))) rfl
end
end
section
open PySem.Calls
theorem ZLq{k:Int}{n:Nat}(h:¬0<=k):k+n<=(n:Int):=Int.le_trans (Int.add_le_add_right (Int.le_of_lt (Int.not_le.mp h)) n) (Int.le_of_eq (Int.zero_add _))
theorem Zei(k:Int)(n:Nat):max 0 (min (if k < 0 then k+n else k) (n:Int))=(Zfw k n:Nat):=by
 unfold Zfw
 by_cases h:0<=k
 .obtain⟨j,rfl⟩:=Int.eq_ofNat_of_zero_le h
  rw[if_pos h,if_neg (Int.not_lt.mpr h),Int.toNat_natCast]
  rcases Nat.le_total j n with q|q
  .rw[Nat.min_eq_left q,Int.min_eq_left (Int.ofNat_le.mpr q),Int.max_eq_right (Int.natCast_nonneg _)]
  .rw[Nat.min_eq_right q,Int.min_eq_right (Int.ofNat_le.mpr q),Int.max_eq_right (Int.natCast_nonneg _)]
 .rw[if_neg h,if_pos (Int.not_le.mp h),Int.min_eq_left (ZLq h),Int.ofNat_toNat,Int.max_comm]
theorem ZGp(k:Int)(n:Nat):Zfw k n<=n:=by
 unfold Zfw
 by_cases h:0<=k
 .rw[if_pos h];exact Nat.min_le_right _ _
 .rw[if_neg h];exact Int.toNat_le.mpr (ZLq h)
theorem Zts(lo hi:Option Int)(n:Nat):sliceBounds lo hi none n=(((lo.elim 0 (Zfw · n):Nat):Int),((hi.elim n (Zfw · n):Nat):Int),1):=by
 unfold sliceBounds
 simp only[Option.getD_none,show(1:Int)> 0 by decide,if_true]
 cases lo <;> cases hi <;> simp only[Option.elim,Zei] <;> rfl
theorem Zeq(vs:List Value)(lo hi:Option Int):slicePick vs.toArray lo hi none=(cut lo hi vs).toArray:=by
 unfold slicePick cut
 rw[Zts]
 simp only[List.size_toArray]
 rw[sliceRange_one,pick_run]
 simp only[List.drop_take]
theorem ZHt{α β:Type}{a:List α}{b:List β}(h:a.length=b.length)(lo hi:Option Int):(cut lo hi a).length=(cut lo hi b).length:=by
 unfold cut
 simp only[List.length_drop,List.length_take,h]
theorem ZAy{α:Type}(lo hi:Option Int)(l:List α):(cut lo hi l).length<=l.length:=by
 unfold cut
 rw[List.length_drop,List.length_take]
 exact Nat.le_trans (Nat.sub_le _ _) (Nat.min_le_right _ _)
theorem RepFs.cut{P:Px}{Z:Zf}{l:List MV}{vs:List Value}(r:RepFs P Z l vs)(lo hi:Option Int):RepFs P Z (Mine.cut lo hi l) (Mine.cut lo hi vs):=by
 unfold Mine.cut
 rw[r.length]
 exact(r.take _).drop _
theorem Zzk(x:Str)(lo hi:Option Int):Builtin.Str.strSliceIndices lo hi 1 x.length=sliceRange ((lo.elim 0 (Zfw · x.length):Nat):Int) ((hi.elim x.length (Zfw · x.length):Nat):Int) 1:=by
 unfold Builtin.Str.strSliceIndices
 simp only[show(1:Int)> 0 by decide,if_true]
 cases lo <;> cases hi <;> simp only[Option.elim,Zei] <;> rfl
theorem Zio(x:Str)(lo hi:Option Int):(Builtin.Str.strSliceIndices lo hi 1 x.length).filterMap (x.cps[·]?)=Mine.cut lo hi x.cps.toList:=by
 rw[Zzk,sliceRange_one,pick_run]
 unfold Mine.cut
 rw[show x.cps.toList.length=x.length from by simp[Str.length]]
 simp only[List.drop_take]
theorem Zgn{x:Str}{lo hi:Option Int}(h:(Builtin.Str.strSliceIndices lo hi 1 x.length).length=x.length):Mine.cut lo hi x.cps.toList=x.cps.toList:=by
 rw[Zzk,sliceRange_one,List.length_map,List.length_range]at h
 have hx:x.cps.toList.length=x.length:=by simp[Str.length]
 have hb:(hi.elim x.length (Zfw · x.length):Nat)<=x.length:=by
  cases hi with
  |none=>exact Nat.le_refl _
  |some k=>exact ZGp k x.length
 unfold Mine.cut
 rw[hx]
 refine List.Sublist.eq_of_length ((List.drop_sublist _ _).trans (List.take_sublist _ _)) ?_
 rw[List.length_drop,List.length_take,hx,Nat.min_eq_left hb]
 exact h
theorem IsPart.of{v:Value}{lo:Option Int}(h:IsPart v lo):∃l:Option (Int×Tok),v=partValue l/\l.map (·.1)=lo:=by
 cases h with
 |none=>exact⟨none,rfl,rfl⟩
 |int i t=>exact⟨some (i,t),rfl,rfl⟩
section
variable{c:Cx}{sc:Sc}{E:Prop}{N:Nat}{e:Expr}{x y z:CE}{n:Nat}{f:Expr->CE}{w:Wd}{v:Value}{o r:OV}{value:Expr}{σ:Sg}{Γ:List En}
theorem Uw{t sl:Addr}{items:Array Value}{u:Tok}{s:Shared}{Q:Value->Shared->Prop}{E:Value->Shared->Prop}(ht:IsTup s.heap t items)(hs:s.heap.IsSliceOf sl (.int (0:Nat) u) .none .none)(h:Q (.ref t) s):
  wpAny c.M c.A (PySem.getItem (.ref t) (.ref sl)) Q E s:=by
 obtain⟨os,hos,hcs,hds⟩:=id hs
 have hTs:s.TypeIs (.ref sl) "slice":=⟨os,hos,hcs⟩
 unfold PySem.getItem
 try with_reducible refine wpAny_holding ?_
 first|refine wpAny_bind (wpAny_pure ?_)|skip
 refine wpAny_bind (wpAny_sequenceKey ht.typeIs (by decide) ?_)
 refine wpAny_bind (wpAny_callSpecial?_slot (name:=Str.ofString "__getitem__") ht.typeIs slot_tuple_getitem
  (wpAny_call_entry slot_tuple_getitem ht.typeIs entry_tuple_getitem ?_ (args_tuple_getitem _ _)))
 show wpAny _ _ (Builtin.Tuple.tupleItemsOf (.ref t)>>=_) _ _ s
 refine wpAny_bind (tupleItemsOf_ ht ?_)
 refine wpAny_bind (wpAny_typeOf hTs ?_)
 rw[if_pos (by decide)]
 refine wpAny_bind (sliceApplied_from hs (Nat.zero_le _) ?_)
 show wpAny _ _ (if(((0:Nat):Int)==0&&(1:Int)==1&&(items.size - 0)==items.size)=true then _ else _) _ _ s
 rw[if_pos (by simp)]
 refine wpAny_bind ?_
 unfold Builtin.Tuple.tupleIsExact
 refine wpAny_bind (wpAny_typeOf ht.typeIs (wpAny_pure ?_))
 rw[if_pos (by decide)]
 refine wpAny_bind (wpAny_rule ?_)
 exact wpAny_pure ⟨_,rfl,wpAny_pure h⟩
noncomputable abbrev slO(vl vu:Value):Obj:={cls:=.type "slice",data:=.fields #[vl,vu,.none]}
theorem Uo(B:Beg c)(I:Inv c w σ Γ){lower upper:Option Expr}{p:Pos}{vl vu:Value}{lo hi:Option Int}(ro:Rd c.P w o v)(pl:IsPart vl lo)(pu:IsPart vu hi)(h:Zbl o lo hi=some r)
  {Q:Value->Shared->Prop}{E:Value->Shared->Prop}(H:∀w' u,Inv c w' σ (.o r u::Γ)->Q u w'.s):
  wpAny c.M c.A (subscriptTail value (.Slice lower upper none p) v (.ref w.s.heap.objs.size)) Q E {w.s with heap:=w.s.heap.push (slO vl vu)}:=by
 have kp:∀(a:Addr) (ob:Obj),w.s.heap.get? a=some ob->(w.s.heap.push (slO vl vu)).get? a=some ob:=λ_ _ e=>Heap.get?_push_of_some _ e
 have lst:∀{a us n l},w.s.heap.get? a=some (Zaj us n)->RepFs c.P w.Z l us->l.length<=Zb->some (OV.l (cut lo hi l))=some r->
   wpAny c.M c.A (subscriptTail value (.Slice lower upper none p) (.ref a) (.ref w.s.heap.objs.size)) Q E {w.s with heap:=w.s.heap.push (slO vl vu)}:=λ{a us n l} g rs hl e=>by
  have hL:Heap.IsList (w.s.heap.push (slO vl vu)) a us.toArray:=⟨_,kp _ _ g,rfl,n,rfl⟩
  refine tail_any (s:={w.s with heap:=w.s.heap.push (slO vl vu)}) hL.typeIs slot_list_getitem.lookup (wpAny_getItem_list_slice hL (Heap.IsSliceOf.new ..) pl pu .none (by simp) ?_ (by rw[List.size_toArray,rs.length];exact Nat.le_trans hl (by decide))) rfl
  rw[Zeq]
  exact H _ _ (Option.some.inj e▸I.newlist B kp w.s.toks 0 (rs.cut lo hi) (Nat.le_trans (ZAy lo hi l) hl))
 cases o with
 |o _ _=>exact ns h
 |l l=>exact ro.elim λt ro=>ro.elim λx ro=>ro.e (G:=λv=>wpAny c.M c.A (subscriptTail value (.Slice lower upper none p) v (.ref w.s.heap.objs.size)) Q E {w.s with heap:=w.s.heap.push (slO vl vu)}) λa us n _ g rs hl=>lst g rs hl h
 |f m=>
  cases m with
  |lst l=>exact RepF.lst_e (G:=λv=>wpAny c.M c.A (subscriptTail value (.Slice lower upper none p) v (.ref w.s.heap.objs.size)) Q E {w.s with heap:=w.s.heap.push (slO vl vu)}) ro λa us n g rs hl=>lst (I.iv.zok _ _ g) rs hl h
  |tup l=>
   refine RepF.tup_e (G:=λv=>wpAny c.M c.A (subscriptTail value (.Slice lower upper none p) v (.ref w.s.heap.objs.size)) Q E {w.s with heap:=w.s.heap.push (slO vl vu)}) ro λa us n g rs hl=>?_
   have h:Zzh l lo hi=some r:=h
   cases pu with
   |int _ _=>exact ns h
   |none=>
    cases pl with
    |none=>exact ns h
    |int k t=>
     obtain⟨hk,rfl⟩:=Zak (show(if 0<=k/\k.toNat<=l.length then some (OV.f (.tup (l.drop k.toNat)))else none)=some r from h)
     obtain⟨j,rfl⟩:=Int.eq_ofNat_of_zero_le hk.1
     have hj:j<=us.toArray.size:=by rw[List.size_toArray,rs.length];exact hk.2
     have hT:IsTup (w.s.heap.push (slO (.int (j:Nat) t) .none)) a us.toArray:=⟨_,kp _ _ (I.iv.zok _ _ g),rfl,n,rfl⟩
     by_cases h1:j=0
     .subst h1
      exact tail_any (s:={w.s with heap:=w.s.heap.push (slO (.int (0:Nat) t) .none)}) hT.typeIs slot_tuple_getitem.lookup (Uw hT (Heap.IsSliceOf.new ..) (H _ _ ((I.junk B kp w.s.toks).put ⟨a,us,n,rfl,g,rs,hl⟩))) rfl
     .exact tail_any (s:={w.s with heap:=w.s.heap.push (slO (.int (j:Nat) t) .none)}) hT.typeIs slot_tuple_getitem.lookup (getItem_tuple_from hT (Heap.IsSliceOf.new ..) (Nat.pos_of_ne_zero h1) hj (H _ _ (I.newtup B kp w.s.toks 0 (rs.drop j) (by rw[List.length_drop];exact Nat.le_trans (Nat.sub_le _ _) hl))) (by rw[List.size_toArray,rs.length];exact Nat.le_trans hl (by decide))) rfl
  |str x=>
   refine RepF.str_e (P:=c.P) (Z:=w.Z) (G:=λv=>wpAny c.M c.A (subscriptTail value (.Slice lower upper none p) v (.ref w.s.heap.objs.size)) Q E {w.s with heap:=w.s.heap.push (slO vl vu)}) ro λt=>?_
   obtain⟨hxl,rfl⟩:=Zak h
   obtain⟨l,rfl,hl⟩:=IsPart.of pl
   obtain⟨u,rfl,hu⟩:=IsPart.of pu
   refine tail_any (s:={w.s with heap:=w.s.heap.push (slO _ _)}) (typeIs_str _ x t) PySem.F.slot_str_getitem.lookup (wpAny_getItem_str_slice (l:=l) (u:=u) (st:=none) ⟨_,Heap.get?_push_size _ rfl,rfl,rfl⟩ rfl ?_) rfl
   have hp:slicePicked x l u none=Builtin.Str.strSliceIndices lo hi 1 x.length:=by unfold slicePicked;rw[hl,hu];rfl
   unfold sliceMade
   rw[hp,Zio]
   split
   .rename_i hall
    have hlen:(cut lo hi x.cps.toList)=x.cps.toList:=Zgn (by simp only[Bool.and_eq_true,beq_iff_eq]at hall;exact hall.2)
    exact H _ _ ((I.junk B kp w.s.toks).put ⟨t,by rw[hlen]⟩)
   .refine⟨?_,H _ _ ((I.junk B kp (w.s.toks+1)).put ⟨_,rfl⟩)⟩
    show(cut lo hi x.cps.toList).toArray.size<=sizeLine
    rw[List.size_toArray]
    exact Nat.le_trans (Nat.le_trans (ZAy lo hi x.cps.toList) ((show x.cps.toList.length=x.length by simp[Str.length])▸hxl)) (by decide)
  |_=>exact ns h
theorem Uq{b:Expr}{lower upper:Option Expr}{p pos:Pos}{Q:Value->Shared->Prop}{E:Value->Shared->Prop}{s:Shared}
  (h:wpAny c.M c.A (eval b c.env) (λv s₁=>wpAny c.M c.A (evalPart lower c.env) (λl s₂=>wpAny c.M c.A (evalPart upper c.env) (λu s₃=>
   wpAny c.M c.A (subscriptTail b (.Slice lower upper none p) v (.ref s₃.heap.objs.size)) Q E {s₃ with heap:=s₃.heap.push (slO l u)}) E s₂) E s₁) E s):
  wpAny c.M c.A (eval (.Subscript b (.Slice lower upper none p) pos) c.env) Q E s:=
 Subscript_ (wpAny_mono h (λv s₁ h₁=>wpAny_Slice (wpAny_mono h₁ (λl s₂ h₂=>wpAny_mono h₂ (λu s₃ h₃=>evalPart_none_step h₃) λ_ _ x=>x) λ_ _ x=>x)) λ_ _ x=>x)
noncomputable def Zfc(f:Expr->CE):Option Expr->CE
 |none=>.nil
 |some e=>.so (f e)
theorem Zfb(hf:∀e,OkE c E N e (f e)){l:Option Expr}{w:Wd}{Γ:List En}{σ:Sg}{Q:Option Int->Sg->Prop}{Qv:Value->Shared->Prop}{Ev:Value->Shared->Prop}(q:(mg N (Zfc f l)).o E σ Q)(I:Inv c w σ Γ)
  (K:∀w' v k σ',IsPart v k->Q k σ'->Inv c w' σ' Γ->Qv v w'.s)(R:Er c E Ev):wpAny c.M c.A (evalPart l c.env) Qv Ev w.s:=by
 cases l with
 |none=>exact evalPart_none_step (K w _ _ σ .none q I)
 |some e=>
  refine evalPart_some_step ((hf e).v q I (λw v o σ q I=>(ZFc q).elim λi q=>?_) R)
  have r:=I.st.1
  rw[q.1]at r
  exact RepF.int_e (P:=c.P) (Z:=w.Z) (G:=λv=>Qv v w.s) r λt=>K w _ _ σ (.int _ _) q.2 I.pop
theorem ZJb(B:Blk c sc)(hf:∀e,OkE c E N e (f e)){l u:Option Expr}{p pos:Pos}:OkE c E N (.Subscript e (.Slice l u none p) pos) (.slE (f e) (Zfc f l) (Zfc f u)):=.plain B (λσ Q w Γ q I Qv Ev K R=>
 Uq ((hf e).v q I (λw v o σ q I=>Zfb (w:=fz w _) hf q (I.frz B.toBeg) (λw l lo σ pl q I=>Zfb hf q I (λw u hi σ pu q I=>by
  obtain⟨r,h,q⟩:=Zo (Ye q)
  exact Uo B.toBeg I.pop (o:=.f o.frz) I.st.1 pl pu h λw v I=>K w v _ σ q I) R) R) R)) rfl
theorem ZJa(B:Blk c sc)(hf:∀e,OkE c E N e (f e)){l u:Option Expr}{p pos:Pos}{j:Nat}(hp:pth sc c.xs n e=some (.v j)):OkE c E N (.Subscript e (.Slice l u none p) pos) (.sl (.v j) (Zfc f l) (Zfc f u)):=.plain B (λσ Q w Γ q I Qv Ev K R=>by
 obtain⟨o,h1,q⟩:=Zo q
 obtain⟨v,k⟩:=Yq B I hp h1
 have I':Inv c w σ (.al j v::Γ):=⟨I.iv,I.en,k.pv,I.st⟩
 refine Uq (k.go (tk:=w.s.toks) λt=>Zfb hf q (I'.tok B.toBeg t) (λw l lo σ pl q I=>Zfb hf q I (λw u hi σ pu q I=>?_) R) R)
 obtain⟨o,h2,q⟩:=Zo q
 obtain⟨r,h,q⟩:=Zo q
 obtain⟨v',e,rr⟩:=I.en j o (Zjg h2)
 exact Uo B.toBeg I.pop (Option.some.inj (e.symm.trans I.st.1)▸rr.rd) pl pu h λw v I=>K w v _ σ q I) rfl
noncomputable def Zfd(pt:Expr->Option Pa):Option Expr->Option CE
 |none=>some .nil
 |some e=>(Zao pt e).map .so
theorem Zlb(B:Blk c sc){l:Option Expr}(h:Zfd (pth sc c.xs n) l=some x){Q:Option Int->Sg->Prop}(q:(mg N x).o E σ Q)(I:Inv c w σ Γ):∃k σ' w',w'.s=w.s/\Q k σ'/\Inv c w' σ' Γ/\
  ∀{tk:Nat} {Qv:Value->Shared->Prop} {Ev:Value->Shared->Prop},(∀v t,IsPart v k->Qv v {w.s with toks:=t})->wpAny c.M c.A (evalPart l c.env) Qv Ev {w.s with toks:=tk}:=by
 cases l with
 |none=>
  cases(show some CE.nil=some x from h)
  exact⟨none,σ,w,rfl,q,I,λ{tk Qv Ev} K=>evalPart_none_step (K _ tk .none)⟩
 |some e=>
   refine Zp (show(Zao (pth sc c.xs n) e).map CE.so=some x from h) λy hy e=>?_
   subst e
   obtain⟨m,σ,w',e,q,I,go⟩:=Zga (N:=N) (E:=E) B hy (Q:=λv σ=>iOf (λi=>Q (some i) σ) v) q I
   obtain⟨i,e2,q⟩:=ZFc q
   cases e2
   exact⟨some i,σ,w',e,q,I,λK=>evalPart_some_step (go λv t r=>r.elim λk r=>by rw[r];exact K _ _ (.int _ _))⟩
theorem ZJc(B:Blk c sc){l u:Option Expr}{p pos:Pos}{pa:Pa}(hp:pth sc c.xs n e=some pa)(hl:Zfd (pth sc c.xs n) l=some x)(hu:Zfd (pth sc c.xs n) u=some y):OkE c E N (.Subscript e (.Slice l u none p) pos) (.sl pa x y):=.plain B (λσ Q w Γ q I Qv Ev K R=>by
 obtain⟨_,_,q⟩:=Zo q
 obtain⟨lo,σ,w',e,q,I,g1⟩:=Zlb B hl q I
 obtain⟨hi,σ,w2,e2,q,I,g2⟩:=Zlb B hu q I
 obtain⟨o,h2,q⟩:=Zo (show onS _ (pk pa σ)from q)
 obtain⟨r,h,q⟩:=Zo q
 obtain⟨v,kp⟩:=Yq B I hp h2
 have kg:=λ{Q E}=>kp.go (tk:=w2.s.toks) (Q:=Q) (E:=E)
 rw[<- e,<- e2]
 rw[<- e,<- e2]at g1
 rw[<- e2]at g2
 exact Uq (kg λt=>g1 (tk:=t) λl t pl=>g2 (tk:=t) λu t pu=>Uo (w:={w2 with s:={w2.s with toks:=t}}) B.toBeg (I.tok B.toBeg t) (kp.rd.tok t) pl pu h λw v I=>K w v _ σ q I)) rfl
end
end
section
open PySem.Calls
theorem Zej{P:Px}{Z:Zf}{l:List MV}:∀{is:List Int} {vs:List Value},Jq l=some is->RepFs P Z l vs->∃xs:List (Int×Tok),vs=xs.map (λp=>Value.int p.1 p.2)/\xs.map (·.1)=is:=by
 induction l with
 |nil=>exactλh r=>⟨[],r.nil_e (G:=λvs=>vs=[]) rfl,Option.some.inj h⟩
 |cons m r ih=>
  exactλ{is vs} h x=>x.cons_e (G:=λvs=>∃xs:List (Int×Tok),vs=xs.map (λp=>Value.int p.1 p.2)/\xs.map (·.1)=is) λv ws rv rr=>
   Zfo (G:=λv=>∃xs:List (Int×Tok),v::ws=xs.map (λp=>Value.int p.1 p.2)/\xs.map (·.1)=is) (show(Jr m).bind (λi=>(Jq r).map (i::·))=some is from h) rv λi t h=>Zp h λjs h e=>(ih h rr).elim λxs q=>⟨(i,t)::xs,by rw[q.1];rfl,by rw[<- e,<- q.2];rfl⟩
theorem Zdu(xs:List (Int×Tok))(i:Nat):numAt xs.toArray i=((xs.map (·.1))[i]?).getD 0:=by
 unfold numAt
 rw[List.getElem?_map]
 simp
theorem Zbt(f:Nat->Int)(l:List Int)(hf:∀i,f i=(l[i]?).getD 0)(k:Nat)(h:k<=l.length):preSum f k=(l.take k).sum:=by
 induction k with
 |zero=>rfl
 |succ k ih=>
  have e:l.take (k+1)=l.take k++[l[k]]:=by rw[List.take_add_one,List.getElem?_eq_getElem h];rfl
  rw[preSum,ih (Nat.le_of_lt h),hf k,e,List.sum_append,List.getElem?_eq_getElem h,List.sum_cons,List.sum_nil,Int.add_zero];rfl
theorem Zpa(l:List Int)(h:∀i∈l,i.natAbs < 1099511627776):l.sum.natAbs<=l.length*1099511627776:=by
 induction l with
 |nil=>exact Nat.zero_le _
 |cons a r ih=>
  rw[List.sum_cons,List.length_cons,Nat.succ_mul,Nat.add_comm]
  exact Nat.le_trans (Int.natAbs_add_le _ _) (Nat.add_le_add (Nat.le_of_lt (h a (.head _))) (ih λi hi=>h i (.tail _ hi)))
theorem Zka(f:Nat->Int)(a:Int)(r:List Int)(hf:∀i,f i=((a::r)[i]?).getD 0)(k:Nat)(h:k<=r.length):argBest (λi j=>decide (f i < f j)) k<=k/\f (argBest (λi j=>decide (f i < f j)) k)=(r.take k).foldl min a:=by
 induction k with
 |zero=>exact⟨Nat.le_refl _,hf 0⟩
 |succ k ih=>
  obtain⟨ih1,ih2⟩:=ih (Nat.le_of_lt h)
  have hfk:f (k+1)=r[k]:=(hf (k+1)).trans (congrArg (Option.getD · 0) (List.getElem?_eq_getElem (l:=r) h))
  rw[List.take_add_one,List.getElem?_eq_getElem h,List.foldl_append,<- ih2,argBest]
  by_cases hlt:f (k+1) < f (argBest (λi j=>decide (f i < f j)) k)
  .rw[if_pos (decide_eq_true hlt)]
   exact⟨Nat.le_refl _,hfk▸(Int.min_eq_right (Int.le_of_lt hlt)).symm⟩
  .rw[if_neg (λq=>hlt (of_decide_eq_true q))]
   exact⟨Nat.le_succ_of_le ih1,hfk▸(Int.min_eq_left (Int.not_lt.mp hlt)).symm⟩
theorem Zdy{i:Int}(h:i.natAbs < 2 ^ 64):i.natAbs.log2 < 1920:=by
 by_cases h0:i.natAbs=0
 .rw[h0];decide
 .exact Nat.lt_trans ((Nat.log2_lt h0).mpr h) (by decide)
section
variable{c:Cx}{sc:Sc}{E:Prop}{N:Nat}{e:Expr}{x y z:CE}{n:Nat}{f:Expr->CE}{w:Wd}{v a:Value}{o:OV}{m:MV}{σ:Sg}{Γ:List En}{Q:Value->Shared->Prop}{Ev:Value->Shared->Prop}
noncomputable abbrev Ans(c:Cx)(σ:Sg)(Γ:List En)(o:OV)(Q:Value->Shared->Prop):Prop:=∀w' v,Inv c w' σ (.o o v::Γ)->Q v w'.s
theorem Inv.ans(B:Beg c)(I:Inv c w σ Γ)(H:Ans c σ Γ (.f m) Q){h':Heap}{tk:Nat}(k:∀b o,w.s.heap.get? b=some o->h'.get? b=some o)(r:RepF c.P w.Z m v):Q v {w.s with heap:=h',toks:=tk}:=H _ _ ((I.junk B k tk).put r)
theorem Inv.an(B:Beg c)(I:Inv c w σ Γ)(H:Ans c σ Γ (.f m) Q)(tk:Nat)(r:RepF c.P w.Z m v):Q v {w.s with toks:=tk}:=H _ _ ((I.tok B tk).put r)
theorem ZHr{t:String}(h:(t=="int"||t=="bool"||t=="str"||t=="tuple")=true){G:String->Prop}(h1:G "int")(h2:G "bool")(h3:G "str")(h4:G "tuple"):G t:=by
 simp only[Bool.or_eq_true,beq_iff_eq]at h
 rcases h with((rfl|rfl)|rfl)|rfl
 .exact h1
 .exact h2
 .exact h3
 .exact h4
theorem ZLv(I:Iv c w){t:String}{b:Bool}(ht:(t=="int"||t=="bool"||t=="str"||t=="tuple")=true)(h:(match m with
   | .none=>some false
   | .bool _=>some (t=="bool"||t=="int")
   | .int _=>some (t=="int")
   | .str _=>some (t=="str")
   | .tup _=>some (t=="tuple")
   | .lst _=>some false
   |_=>none)=some b)(r:RepF c.P w.Z m a)(H:∀tk,Q (.bool b) {w.s with toks:=tk}):wpAny c.M c.A (call (.builtin "isinstance") [a,.type t]) Q Ev w.s:=by
 have H:=λb' (e:some b'=some b) tk=>Option.some.inj e▸H tk
 cases m with
 |none=>
  rw[show a=.none from r]
  refine ZHr ht (G:=λt=>wpAny c.M c.A (call (.builtin "isinstance") [.none,.type t]) Q Ev w.s) ?_ ?_ ?_ ?_
  .exact call_isinstance (isinstance_false_none (by decide+kernel) PySem.F.isi_meta_int (by rw[isSubtype_type];kernel_rfl)) (H _ h _)
  .exact call_isinstance (isinstance_false_none (by decide+kernel) PySem.F.isi_meta_bool (by rw[isSubtype_type];kernel_rfl)) (H _ h _)
  .exact call_isinstance (isinstance_false_none (by decide+kernel) PySem.F.isi_meta_str (by rw[isSubtype_type];kernel_rfl)) (H _ h _)
  .exact call_isinstance (isinstance_false_none (by decide+kernel) PySem.F.isi_meta_tuple (by rw[isSubtype_type];kernel_rfl)) (H _ h _)
 |bool x=>
  rw[show a=.bool x from r]
  exact ZHr ht (G:=λt=>some (t=="bool"||t=="int")=some b->wpAny c.M c.A (call (.builtin "isinstance") [.bool x,.type t]) Q Ev w.s) (λh=>IsiPair.bool_int (H _ h _)) (λh=>IsiPair.bool_bool (H _ h _)) (λh=>IsiPair.bool_str (H _ h _)) (λh=>IsiPair.bool_tuple (H _ h _)) h
 |int x=>exact r.int_e (G:=λa=>wpAny c.M c.A (call (.builtin "isinstance") [a,.type t]) Q Ev w.s) λu=>ZHr ht (G:=λt=>some (t=="int")=some b->wpAny c.M c.A (call (.builtin "isinstance") [.int x u,.type t]) Q Ev w.s) (λh=>IsiPair.int_int (H _ h _)) (λh=>IsiPair.int_bool (H _ h _)) (λh=>IsiPair.int_str (H _ h _)) (λh=>IsiPair.int_tuple (H _ h _)) h
 |str x=>exact r.str_e (G:=λa=>wpAny c.M c.A (call (.builtin "isinstance") [a,.type t]) Q Ev w.s) λu=>ZHr ht (G:=λt=>some (t=="str")=some b->wpAny c.M c.A (call (.builtin "isinstance") [.str x u,.type t]) Q Ev w.s) (λh=>IsiPair.str_int (H _ h _)) (λh=>IsiPair.str_bool (H _ h _)) (λh=>IsiPair.str_str (H _ h _)) (λh=>IsiPair.str_tuple (H _ h _)) h
 |tup x=>exact r.tup_e (G:=λa=>wpAny c.M c.A (call (.builtin "isinstance") [a,.type t]) Q Ev w.s) λad us n g _ _=>ZHr ht (G:=λt=>some (t=="tuple")=some b->wpAny c.M c.A (call (.builtin "isinstance") [.ref ad,.type t]) Q Ev w.s) (λh=>IsiPair.tuple_int (I.zok _ _ g) rfl (H _ h _)) (λh=>IsiPair.tuple_bool (I.zok _ _ g) rfl (H _ h _)) (λh=>IsiPair.tuple_str (I.zok _ _ g) rfl (H _ h _)) (λh=>IsiPair.tuple_tuple (I.zok _ _ g) rfl (H _ h _)) h
 |lst x=>exact r.lst_e (G:=λa=>wpAny c.M c.A (call (.builtin "isinstance") [a,.type t]) Q Ev w.s) λad us n g _ _=>ZHr ht (G:=λt=>some false=some b->wpAny c.M c.A (call (.builtin "isinstance") [.ref ad,.type t]) Q Ev w.s) (λh=>IsiPair.list_int (I.zok _ _ g) rfl (H _ h _)) (λh=>IsiPair.list_bool (I.zok _ _ g) rfl (H _ h _)) (λh=>IsiPair.list_str (I.zok _ _ g) rfl (H _ h _)) (λh=>IsiPair.list_tuple (I.zok _ _ g) rfl (H _ h _)) h
 |_=>exact ns h
theorem Zbr(B:Blk c sc)(I:Iv c w){b:Bool}(h:typeIs v m=some b)(r:RepF c.P w.Z m a)(H:∀tk,Q (.bool b) {w.s with toks:=tk}):wpAny c.M c.A (call (.builtin "isinstance") [a,v]) Q Ev w.s:=by
 cases v with
 |type t=>
  by_cases q:(t=="int"||t=="bool"||t=="str"||t=="tuple")=true
  .exact ZLv I q ((if_pos q).symm.trans (show(if(t=="int"||t=="bool"||t=="str"||t=="tuple")=true then _ else none)=some b from h)) r H
  .exact ns ((if_neg q).symm.trans (show(if(t=="int"||t=="bool"||t=="str"||t=="tuple")=true then _ else none)=some b from h))
 |ref C=>
  cases m with
  |obj d fs=>
   obtain⟨rfl,rfl⟩:=Zak (show(if C=d then some true else none)=some b from h)
   exact r.obj_e (G:=λa=>wpAny c.M c.A (call (.builtin "isinstance") [a,.ref C]) Q Ev w.s) λx dd es n g g2 _=>by
    have I1:InstAt w.s.heap x (instObj C dd) C (some (dictOf es n)):=⟨I.zok _ _ g,rfl,rfl,I.zok _ _ g2⟩
    exact isi_call (t:=.ref C) (B.kin.keeps (I.hh B.toBeg)) (λM=>I1.type) (by unfold isIn;simp) nofun (H w.s.toks)
  |_=>exact ns h
 |_=>exact ns h
theorem Zrl(B:Beg c)(I:Inv c w σ Γ)(r:Rd c.P w o v){t:OV}(h:Zng o.frz=some t)(H:Ans c σ Γ t Q):wpAny c.M c.A (call (.builtin "len") [v]) Q Ev w.s:=by
 have hmax:Zb=10000:=rfl
 have lst:∀{a us n l},w.s.heap.get? a=some (Zaj us n)->RepFs c.P w.Z l us->l.length<=Zb->Zgc l.length=some t->wpAny c.M c.A (call (.builtin "len") [.ref a]) Q Ev w.s:=λ{a us n l} g rs hl h=>by
  have hl2:=rs.length
  exact call_len_list ⟨_,g,rfl,n,rfl⟩ (by rw[List.size_toArray,hl2];exact Int.ofNat_lt.mpr (Nat.lt_of_le_of_lt hl (by decide:Zb < 2 ^ 63))) (I.int B H (by rw[List.size_toArray,hl2];exact h) _ _)
 cases o with
 |l l=>exact r.elim λ_ r=>r.elim λx r=>r.e (G:=λv=>wpAny c.M c.A (call (.builtin "len") [v]) Q Ev w.s) λa us n _ g rs hl=>lst g rs hl h
 |o _ _=>exact ns h
 |f m=>
  cases m with
  |lst l=>exact RepF.lst_e (G:=λv=>wpAny c.M c.A (call (.builtin "len") [v]) Q Ev w.s) r λa us n g rs hl=>lst (I.iv.zok _ _ g) rs hl h
  |tup l=>
   exact RepF.tup_e (G:=λv=>wpAny c.M c.A (call (.builtin "len") [v]) Q Ev w.s) r λa us n g rs hl=>by
     have hl2:=rs.length
     exact PyProof.Rows.len_tuple ⟨_,I.iv.zok _ _ g,rfl,n,rfl⟩ (by rw[List.size_toArray,hl2];exact Int.ofNat_lt.mpr (Nat.lt_of_le_of_lt hl (by decide:Zb < 2 ^ 63))) (I.int B H (by rw[List.size_toArray,hl2];exact h) _ _)
  |str s=>
   exact RepF.str_e (P:=c.P) (Z:=w.Z) (G:=λv=>wpAny c.M c.A (call (.builtin "len") [v]) Q Ev w.s) r λt'=>by
    obtain⟨q,h⟩:=Zak (x:=OV.f (.int s.length)) h
    exact P.len_str (Int.not_le.mpr (Int.ofNat_lt.mpr (Nat.lt_of_le_of_lt q (by decide:Zb < 2 ^ 63)))) (I.int B H (congrArg some h) _ _)
  |_=>exact ns h
theorem Zsa{x:Int}(h:x.natAbs<=10000*1099511627776):InLong x:=
 have e:x.natAbs < 2 ^ 63:=Nat.lt_of_le_of_lt h (by decide)
 ⟨Int.neg_le_of_neg_le (Int.le_trans (Int.natAbs_neg x▸Int.le_natAbs) (Int.ofNat_le.mpr (Nat.le_of_lt e))),Int.lt_of_le_of_lt Int.le_natAbs (Int.ofNat_lt.mpr e)⟩
theorem ZIu(B:Beg c)(hh:c.A.handled=none)(I:Inv c w σ Γ)(r:RepF c.P w.Z m v){t:OV}(h:((Zcv m).bind λl=>(Jq l).bind λis=>if is.all λi=>decide (i.natAbs < 1099511627776)then Zgc is.sum else none)=some t)(H:Ans c σ Γ t Q):wpAny c.M c.A (call (.builtin "sum") [v]) Q Ev w.s:=
 ZEh (G:=λv=>wpAny c.M c.A (call (.builtin "sum") [v]) Q Ev w.s) h r λl h a us n g rs hl=>Zh h λis hi h=>by
  have hmax:Zb=10000:=rfl
  obtain⟨hall,rfl⟩:=Zak (x:=OV.f (.int is.sum)) h
  obtain⟨xs,rfl,rfl⟩:=Zej hi rs
  have hlen:xs.length<=10000:=Nat.le_trans (Nat.le_of_eq ((List.length_map _).symm.trans rs.length)) hl
  have hL:w.s.heap.IsList a (intItems xs.toArray):=⟨_,I.iv.zok _ _ g,rfl,n,by simp[intItems]⟩
  have hf:∀i,numAt xs.toArray i=((xs.map (·.1))[i]?).getD 0:=Zdu xs
  have hb:∀i∈xs.map (·.1),i.natAbs < 1099511627776:=λi hi=>of_decide_eq_true (List.all_eq_true.mp hall i hi)
  refine sum_intList hh hL (λj hj=>?_) λh' tk t' hk=>I.ans B H hk ⟨t',?_⟩
  .have hj':j < (xs.map (·.1)).length:=by simpa using hj
   have h1:(numAt xs.toArray j).natAbs < 1099511627776:=by
    rw[hf,List.getElem?_eq_getElem hj']
    exact hb _ (List.getElem_mem _)
   have h2:(preSum (numAt xs.toArray) (j+1)).natAbs<=10000*1099511627776:=by
    rw[Zbt _ _ hf _ hj']
    refine Nat.le_trans (Zpa _ λi hi=>hb i (List.mem_of_mem_take hi)) (Nat.mul_le_mul_right _ ?_)
    rw[List.length_take,List.length_map];exact Nat.le_trans (Nat.min_le_right _ _) hlen
   exact⟨Zsa (Nat.le_trans (Nat.le_of_lt h1) (by decide)),Zsa h2⟩
  .rw[List.size_toArray,Zbt _ _ hf xs.length (by simp),List.take_of_length_le (by simp)]
theorem ZLe(B:Beg c)(hh:c.A.handled=none)(I:Inv c w σ Γ)(r:RepF c.P w.Z m v){t:OV}(h:((Zcv m).bind λl=>(Jq l).bind λis=>(ZEa is).bind Zgc)=some t)(H:Ans c σ Γ t Q):wpAny c.M c.A (call (.builtin "min") [v]) Q Ev w.s:=
 ZEh (G:=λv=>wpAny c.M c.A (call (.builtin "min") [v]) Q Ev w.s) h r λl h a us n g rs hl=>Zh h λis hi h=>Zh h λk hk h=>by
  cases h
  obtain⟨xs,rfl,rfl⟩:=Zej hi rs
  have hL:w.s.heap.IsList a (intItems xs.toArray):=⟨_,I.iv.zok _ _ g,rfl,n,by simp[intItems]⟩
  cases xs with
  |nil=>exact ns hk
  |cons p q=>
   have hf:∀i,numAt (p::q).toArray i=((p.1::q.map (·.1))[i]?).getD 0:=Zdu (p::q)
   have b2:=(Zka _ _ _ hf q.length (by simp)).2
   rw[List.take_of_length_le (by simp),Option.some.inj (show some ((q.map (·.1)).foldl min p.1)=some k from hk)]at b2
   refine min_intList hh hL (by simp) λv h' tk hv hk=>?_
   obtain⟨t,rfl⟩:=intItems_at hv
   rw[show(p::q).toArray.size - 1=q.length by simp,b2]
   exact I.ans B H hk ⟨t,rfl⟩
theorem ZCj(B:Beg c)(I:Inv c w σ Γ)(r:RepF c.P w.Z m v){s:Str}(h:Mine.reprOf m=some s)(H:Ans c σ Γ (.f (.str s)) Q):wpAny c.M c.A (call (.builtin "repr") [v]) Q Ev w.s:=by
 cases m with
 |none=>exact(show v=.none from r)▸P.repr_of_none (I.str B H (by rw[<- Option.some.inj h]) _ _)
 |bool b=>exact(show v=.bool b from r)▸P.repr_of_bool (I.str B H (by rw[<- Option.some.inj h]) _ _)
 |int i=>exact r.int_e (G:=λv=>wpAny c.M c.A (call (.builtin "repr") [v]) Q Ev w.s) λt=>P.repr_of_int (Zdy (Zak h).1) (I.str B H (by rw[<- (Zak h).2]) _ _)
 |str i=>exact r.str_e (G:=λv=>wpAny c.M c.A (call (.builtin "repr") [v]) Q Ev w.s) λt=>P.repr_of_str (I.str B H (by rw[<- (Zak h).2]) _ _) (Nat.le_trans (Zak h).1 ten)
 |_=>exact ns h
theorem ZIx(B:Beg c)(I:Inv c w σ Γ)(r:RepF c.P w.Z m v){s:Str}(h:Mine.strOf m=some s)(H:Ans c σ Γ (.f (.str s)) Q):wpAny c.M c.A (call (.type "str") [v]) Q Ev w.s:=by
 cases m with
 |none=>exact(show v=.none from r)▸P.str_of_none (I.str B H (by rw[<- Option.some.inj h]) _ _)
 |int i=>exact r.int_e (G:=λv=>wpAny c.M c.A (call (.type "str") [v]) Q Ev w.s) λt=>P.str_of_int (Zdy (Zak h).1) (I.str B H (by rw[<- (Zak h).2]) _ _)
 |str i=>exact r.str_e (G:=λv=>wpAny c.M c.A (call (.type "str") [v]) Q Ev w.s) λt=>P.str_of_str (I.an B H _ ⟨t,by rw[<- Option.some.inj h]⟩)
 |_=>exact ns h
theorem Zrk(B:Beg c)(I:Inv c w σ Γ)(r:RepF c.P w.Z m v){t:OV}(h:(Zcv m).map OV.l=some t)(H:Ans c σ Γ t Q):wpAny c.M c.A (call (.type "list") [v]) Q Ev w.s:=
 Zp h λl h e=>(Zgb h▸r:RepF c.P w.Z (.lst l) v).lst_e (G:=λv=>wpAny c.M c.A (call (.type "list") [v]) Q Ev w.s) λa us n g rs hl=>by
  subst e
  refine call_list_seq (items:=us.toArray) a (.inl rfl) (I.iv.zok _ _ g) rfl rfl (λh' c' hk hD=>?_) (Nat.le_trans (Nat.le_of_eq (List.size_toArray.trans rs.length)) (Nat.le_trans hl ten))
  exact H _ _ (I.ownlist B hk (Zl _) hD w.s.toks rs hl)
end
end
section
open PySem.Calls
noncomputable def ZUd(g:Nat->Option Nat)(q:Tg):Option Tg:=(g q.1).map λt=>(t,q.2)
noncomputable def cw(w:Wd)(g:Nat->Option Nat):Wd:={w with W:=λa=>(w.W a).bind (ZUd g)}
noncomputable def bkW(o:Option Tg)(n:Option Tg)(g r:Nat->Option Nat):Option Tg:=match n with
 |some q=>ZUd r q
 |none=>o.bind λq=>if(g q.1).isSome=true then none else some q
noncomputable def bk(w w':Wd)(g r:Nat->Option Nat):Wd:={w' with W:=λa=>bkW (w.W a) (w'.W a) g r}
section
variable{c:Cx}{sc:Sc}{E:Prop}{N:Nat}{e:Expr}{x y z:CE}{n:Nat}{f:Expr->CE}{w w':Wd}{v u:Value}{o:OV}{m:MV}{σ:Sg}{Γ:List En}{g r:Nat->Option Nat}{t t':Nat}
theorem Zfv{a:Addr}(h:(cw w g).W a≠none):w.W a≠none:=λe=>h (by show(w.W a).bind _=none;rw[e];rfl)
theorem Zcr{a:Addr}(h:w.W a=none):(cw w g).W a=none:=by show(w.W a).bind _=none;rw[h];rfl
theorem ZGg{a:Addr}{s:Nat}{x:Option Str}(h:w.W a=some (s,x)):(cw w g).W a=(g s).map λt=>(t,x):=by show(w.W a).bind _=_;rw[h];rfl
theorem RepO.cw{P:Px}(h:RepO P w t o v)(k:g t=some t'):RepO P (cw w g) t' o v:=RepO.keep (w:=w) (t:=t) (w':=Mine.cw w g) (λ_ _ e=>e) (λb x e=>⟨by rw[ZGg e,k];rfl,rfl⟩) h
theorem RepO.bk{P:Px}(h:RepO P w' t o v)(k:r t=some t'):RepO P (bk w w' g r) t' o v:=RepO.keep (w:=w') (t:=t) (w':=Mine.bk w w' g r) (λ_ _ e=>e) (λb x e=>⟨by show bkW _ (w'.W b) g r=_;rw[e];show(r t).map _=_;rw[k];rfl,rfl⟩) h
theorem Inv.pre(B:Blk c sc)(I:Inv c w σ Γ):Pre c (cw w g):=
 ⟨λa o e=>I.iv.h0 B.toBeg a o e,I.iv.zok,λa h=>I.iv.wz a (Zfv h),λa h=>⟨(I.iv.free B.toBeg (.inr h)).1,Zcr (I.iv.free B.toBeg (.inr h)).2⟩,I.iv.frs,I.iv.gens⟩
theorem Stp.call(B:Beg c)(I:Iv c w)(S:Stp c (λ_=>True) (cw w g) w'):Stp c (λt=>(g t).isSome=true) w (bk w w' g r):=by
 have old:∀{a s x},w.W a=some (s,x)->¬(g s).isSome=true->(cw w g).W a=none/\w'.W a=none/\w'.s.heap.get? a=w.s.heap.get? a:=λ{a s x} e h=>by
  have gn:g s=none:=by
   cases q:g s with
   |none=>rfl
   |some t=>exact absurd (by rw[q];rfl) h
  have cn:(cw w g).W a=none:=by rw[ZGg e,gn];rfl
  obtain⟨y,hy⟩:=(I.wz a (Ze e)).2
  refine⟨cn,?_,?_⟩
  .cases q:w'.W a with
   |none=>rfl
   |some p=>exact((S.wnew a (Ze q)).elim (λz=>z cn) λz=>ns2 z hy).elim
  .exact(S.kept a y hy cn).elim (λz=>z.trans hy.symm) λz=>ns2 (I.free B (.inr z.1)).2 e
 have back:∀{a},(bk w w' g r).W a≠none->(w'.W a≠none)\/∃s x,w.W a=some (s,x)/\¬(g s).isSome=true:=λ{a} h=>by
  cases q:w'.W a with
  |some p=>exact .inl nofun
  |none=>
   have h:bkW (w.W a) (w'.W a) g r≠none:=h
   rw[q]at h
   cases k:w.W a with
   |none=>rw[k]at h;exact absurd rfl h
   |some p=>
    rw[k]at h
    by_cases z:(g p.1).isSome=true
    .exact absurd (if_pos z) h
    .exact .inr ⟨_,_,rfl,z⟩
 refine⟨λa o e h=>S.kept a o e (Zcr h),S.zsub,S.zok,λa o e=>(S.znew a o e).imp id λh=>h.imp Zfv id,λa h=>?_,λa h=>?_,λs hs b x e=>?_,S.m,S.cm,S.os,S.gens⟩
 .rcases back h with k|⟨s,x,e,k⟩
  .exact S.wz a k
  .have q:=old e k
   have z:=I.wz a (Ze e)
   refine⟨show w'.Z a=none from ?_,z.2.elim λy hy=>⟨y,q.2.2.trans hy⟩⟩
   cases p:w'.Z a with
   |none=>rfl
   |some y=>exact((S.znew a y p).elim (λe=>ns2 z.1 e) λh=>h.elim (λh=>(h q.1).elim) λh=>z.2.elim λy hy=>ns2 h hy)
 .rcases back h with k|⟨s,x,e,k⟩
  .exact(S.wnew a k).imp Zfv id
  .exact .inl (Ze e)
 .have q:=old e hs
  refine⟨?_,q.2.2⟩
  show bkW (w.W b) (w'.W b) g r=_
  rw[q.2.1,e]
  exact if_neg hs
theorem Thrown.fl(B:Beg c)(I:Iv c w){s':Shared}{a:Addr}(T:Thrown c (cw w g) s' a):Flown c s' a:=by
 have un:∀{b o},c.s1.heap.get? b=some o->c.W1 b=none->(cw w g).W b=none:=λ{b o} e h=>by
  refine Zcr ?_
  cases q:w.W b with
  |none=>rfl
  |some t=>exact((I.wnew b (Ze q)).elim (λz=>z h) λz=>ns2 z e).elim
 refine⟨λb o e h d=>?_,T.os.trans I.os,T.gens.trans I.gens,T.fly.elim λH q=>q.elim λa0 q=>⟨H,a0,λb o e h d l=>q.1 b o ?_ (un e h) l,.inl q.2⟩⟩
 .exact(I.kept b o e h d).elim (λq=>T.kept b o q (un e h)) λq=>q.2.elim λsl y=>.inr ⟨q.1,(T.kept b _ y (un e h)).elim (λz=>⟨sl,z⟩) λz=>z.2.elim λsl' z=>⟨sl',z⟩⟩
 .exact(I.kept b o e h d).resolve_right λq=>l q.1
noncomputable def LsOk(c:Cx)(w:Wd)(ls:List (Option Nat))(vs:List Value):Prop:=∀j i,nth ls j=some (some i)->∃v,nth vs j=some v/\c.vl w i=some v
noncomputable abbrev GA(c:Cx)(E:Prop)(n:Nat)(tree:Sem (List Value))(T:Sg->(List OV->List (Option Nat)->Sg->Prop)->Prop):Prop:=∀⦃σ:Sg⦄ ⦃Q:List OV->List (Option Nat)->Sg->Prop⦄ ⦃w:Wd⦄ ⦃Γ:List En⦄,T σ Q->Inv c w σ Γ->∀⦃Qv:List Value->Shared->Prop⦄ ⦃Ev:Value->Shared->Prop⦄,
 (∀w' vs os ls σ',vs.length=os.length->Q os ls σ'->Inv c w' σ' (Zdj os vs++Γ)->LsOk c w' ls vs->Qv vs w'.s)->Er c E Ev->wpAny c.M c.A tree Qv Ev w.s
noncomputable def Zmr(pt:Expr->Option Pa)(e:Expr):Option Nat:=(pt e).bind λp=>match p with
 | .v i=>some i
 |_=>none
noncomputable def ZPg(pt:Expr->Option Pa)(f:Expr->CE)(p:Pol)(e:Expr)(r:CE):CE:=match p with
 | .frz=>.cons (f e) r
 | .lend=>(match Zmr pt e with|some i=>.lend i r|none=>.cons (f e) r)
 | .move=>(match Zmr pt e with|some i=>.mv i r|none=>.mve (f e) r)
noncomputable def Xy(pt:Expr->Option Pa)(f:Expr->CE):List Pol->List Expr->CE
 |_,[]=>.nil
 |ps,e::r=>ZPg pt f (ps.headD .frz) e (Xy pt f ps.tail r)
theorem ZBn{pt:Expr->Option Pa}{i:Nat}(h:Zmr pt e=some i):pt e=some (.v i):=Zh h λp h1 h2=>by
 cases p with
 |v j=>rw[h1,Option.some.inj h2]
 |_=>exact ns h2
theorem LsOk.cons{ls:List (Option Nat)}{vs:List Value}{l:Option Nat}(L:LsOk c w ls vs)(h:∀i,l=some i->c.vl w i=some v):LsOk c w (l::ls) (v::vs):=λj i e=>match j,e with
 |0,e=>⟨v,rfl,h i (Option.some.inj e)⟩
 |j+1,e=>L j i e
theorem LsOk.none{ls:List (Option Nat)}{vs:List Value}(L:LsOk c w ls vs):LsOk c w (none::ls) (v::vs):=L.cons nofun
theorem Yf{o:OV}{os:List OV}{vs:List Value}:Zdj (o::os) (v::vs)++Γ=Zdj os vs++(.o o v::Γ):=by
 show(En.o o v::List.zipWith En.o os vs).reverse++Γ=_
 rw[List.reverse_cons,List.append_assoc];rfl
theorem StOk.app(S:Stp c (·=2*t) w w'){Δ Γ':List En}(hl:Γ'.length=Γ.length)(h:StOk c w Γ->StOk c w' Γ'):StOk c w (Δ++Γ)->StOk c w' (Δ++Γ'):=by
 induction Δ with
 |nil=>exact h
 |cons e Δ ih=>
  intro k
  have k:ZHg c w (Δ++Γ).length e/\StOk c w (Δ++Γ):=k
  refine⟨show ZHg c w' (Δ++Γ').length e from ?_,ih k.2⟩
  rw[List.length_append,hl,<- List.length_append]
  exact S.enOk Zlg k.1
theorem StOk.low{Δ:List En}(h:StOk c w (Δ++Γ)):StOk c w Γ:=by
 induction Δ with
 |nil=>exact h
 |cons e Δ ih=>exact ih h.2
theorem Inv.take(B:Blk c sc){i:Nat}{Δ:List En}(I:Inv c w σ (Δ++.al i v::Γ))(h:nth σ i=some (some o)):Inv c (rtg w (2*i) (2*Γ.length+1)) (Mine.put σ i none) (Δ++.o o v::Γ):=by
 have S:Stp c (·=2*i) w (rtg w (2*i) (2*Γ.length+1)):=.mv I.iv rfl
 have low:StOk c w (.al i v::Γ):=StOk.low I.st
 refine⟨S.iv B.toBeg I.iv,EnvS.del S Zdm I.en,StOk.app (Γ:=.al i v::Γ) (Γ':=.o o v::Γ) S rfl (λk=>⟨?_,S.stOk (λ_ _=>Zlg) k.2⟩) I.st⟩
 exact(I.en i o h).elim λv' z=>(RepO.mv (Option.some.inj (z.1.symm.trans low.1)▸z.2):RepO c.P (rtg w (2*i) (2*Γ.length+1)) (2*Γ.length+1) o v)
theorem ZGz(B:Blk c sc)(hf:∀e,OkE c E N e (f e)){pos:Pos}{es:List Expr}:∀{ps:List Pol},es.any Zd=false->GA c E es.length (spliced (backTo pos (starEach es c.env))) ((mg N (Xy (pth sc c.xs n) f ps es)).a E):=by
 induction es with
 |nil=>exactλ_ σ Q w Γ q I Qv Ev K R=>spliced_nil (K w [] [] [] σ rfl q I λj i e=>by cases j <;> exact ns e)
 |cons e r ih=>
  intro ps hs σ Q w Γ q I Qv Ev K R
  have hs:=Bool.or_eq_false_iff.mp (show(Zd e||r.any Zd)=false from hs)
  have ih:=λ{σ Q w Γ} q I {Qv} K=>ih (ps:=ps.tail) hs.2 (σ:=σ) (Q:=Q) (w:=w) (Γ:=Γ) q I (Qv:=Qv) K R
  have frz:(mg N (.cons (f e) (Xy (pth sc c.xs n) f ps.tail r))).a E σ Q->wpAny c.M c.A (spliced (backTo pos (starEach (e::r) c.env))) Qv Ev w.s:=λq=>by
   rw[Zz hs.1]
   exact spliced_cons ((hf e).v q I (λw v o σ q I=>ih (Ye q) (I.frz B.toBeg) λw vs os ls σ hl q I L=>K w (v::vs) (.f o.frz::os) (none::ls) σ (congrArg (·+1) hl) q (Yf▸I) L.none) R)
  have mve:(mg N (.mve (f e) (Xy (pth sc c.xs n) f ps.tail r))).a E σ Q->wpAny c.M c.A (spliced (backTo pos (starEach (e::r) c.env))) Qv Ev w.s:=λq=>by
   rw[Zz hs.1]
   exact spliced_cons ((hf e).v q I (λw v o σ q I=>ih q I λw vs os ls σ hl q I L=>K w (v::vs) (o::os) (none::ls) σ (congrArg (·+1) hl) q (Yf▸I) L.none) R)
  have var:∀{i o},Zmr (pth sc c.xs n) e=some i->kn (nth σ i)=some o->(∀v,c.vl w i=some v->RepO c.P w (2*i) o v->∀t,wpAny c.M c.A (spliced (backTo pos (starEach r c.env))) (λvs s=>Qv (v::vs) s) Ev {w.s with toks:=t})->wpAny c.M c.A (spliced (backTo pos (starEach (e::r) c.env))) Qv Ev w.s:=λ{i o} hv hk H=>by
   obtain⟨v,k⟩:=Yq B I (ZBn hv) hk
   rw[Zz hs.1]
   exact spliced_cons (k.go (tk:=w.s.toks) λt=>H v k.pv ((I.en i o (Zjg hk)).elim λv' z=>Option.some.inj (z.1.symm.trans k.pv)▸z.2) t)
  have q:(mg N (ZPg (pth sc c.xs n) f (ps.headD .frz) e (Xy (pth sc c.xs n) f ps.tail r))).a E σ Q:=q
  cases hp:ps.headD .frz with
  |frz=>rw[hp]at q;exact frz q
  |lend=>
   rw[hp]at q
   unfold ZPg at q
   cases hv:Zmr (pth sc c.xs n) e with
   |none=>rw[hv]at q;exact frz q
   |some i=>
    rw[hv]at q
    obtain⟨o,hk,q⟩:=Zo q
    refine var hv hk λv hvl ro t=>?_
    cases ho:Znj o with
    |true=>
     rw[ho]at q
     cases o with
     |f m=>exact ih (w:={w with s:={w.s with toks:=t}}) q ((I.tok B.toBeg t).put ro) λw vs os ls σ hl q I L=>K w (v::vs) (.f m::os) (none::ls) σ (congrArg (·+1) hl) q (Yf▸I) L.none
     |_=>exact nf ho
    |false=>
     rw[ho]at q
     have I':Inv c w σ (.al i v::Γ):=⟨I.iv,I.en,hvl,I.st⟩
     refine ih (w:={w with s:={w.s with toks:=t}}) q (I'.tok B.toBeg t) λw vs os ls σ hl q I L=>?_
     obtain⟨o',hk',q⟩:=Zo q
     have low:c.vl w i=some v:=(StOk.low I.st).1
     exact K (rtg w _ _) (v::vs) (o'::os) (some i::ls) _ (congrArg (·+1) hl) (Yy q) (Yf▸I.take B (Zjg hk')) (LsOk.cons L λj e=>Option.some.inj e▸low)
  |move=>
   rw[hp]at q
   unfold ZPg at q
   cases hv:Zmr (pth sc c.xs n) e with
   |none=>rw[hv]at q;exact mve q
   |some i=>
    rw[hv]at q
    obtain⟨o,hk,q⟩:=Zo q
    refine var hv hk λv hvl ro t=>?_
    cases ho:Znj o with
    |true=>
     rw[ho]at q
     cases o with
     |f m=>exact ih (w:={w with s:={w.s with toks:=t}}) q ((I.tok B.toBeg t).put ro) λw vs os ls σ hl q I L=>K w (v::vs) (.f m::os) (none::ls) σ (congrArg (·+1) hl) q (Yf▸I) L.none
     |_=>exact nf ho
    |false=>
     rw[ho]at q
     have I':Inv c w σ ([]++.al i v::Γ):=⟨I.iv,I.en,hvl,I.st⟩
     exact ih (w:={rtg w _ _ with s:={w.s with toks:=t}}) (Yy q) ((I'.take B (Zjg hk)).tok B.toBeg t) λw vs os ls σ hl q I L=>K w (v::vs) (o::os) (none::ls) σ (congrArg (·+1) hl) q (Yf▸I) L.none
end
end
section
open PySem.Calls
structure RoomB(c:Cx)(n:Nat):Prop where
 handled:c.A.handled=none
 frames:c.A.frames=some c.l
 depth:c.A.depth+2*n+11 < recursionLimit
 units:c.A.units+20*n+110 < cLine
theorem RoomB.room{c:Cx}{n:Nat}(R:RoomB c n):ZHd c n:=⟨R.handled,R.frames,Nat.lt_of_succ_lt R.depth,Nat.lt_of_le_of_lt (Nat.add_le_add_left (by decide) _) R.units⟩
theorem RoomB.hu{c:Cx}{n:Nat}(R:RoomB c n):c.A.units+100 < cLine:=Nat.lt_of_le_of_lt (Nat.add_le_add (Nat.le_add_right _ _) (by decide:100<=110)) R.units
noncomputable def gk(k d t:Nat):Option Nat:=if 2*k+1<=t/\t % 2=1 then some (t - (2*k+1)+2*d)else none
noncomputable def rk(k d res:Nat)(ls:List (Option Nat))(t:Nat):Option Nat:=if t=res then some (2*k+1)else if t % 2=0/\2*d<=t then(kn' (nth ls ((t - 2*d)/ 2))).map (2*·)else none
 where kn':Option (Option Nat)->Option Nat
 |some o=>o
 |none=>none
theorem ZMb{k d t:Nat}(h:(gk k d t).isSome=true):Up k t:=by
 unfold gk at h
 by_cases q:2*k+1<=t/\t % 2=1
 .exact .odd q
 .rw[if_neg q]at h;exact nf h
theorem ZMc{k d j:Nat}:gk k d (2*(k+j)+1)=some (2*(j+d)):=by
 unfold gk
 rw[if_pos (Zzz (Nat.le_add_right k j)),Nat.add_sub_add_right,Nat.mul_add,Nat.add_sub_cancel_left,<- Nat.mul_add]
theorem ZJm{k d res j i:Nat}{ls:List (Option Nat)}(h:2*(j+d)≠res)(e:nth ls j=some (some i)):rk k d res ls (2*(j+d))=some (2*i):=by
 unfold rk
 rw[if_neg h,if_pos ⟨Nat.mul_mod_right 2 _,Nat.mul_le_mul_left 2 (Nat.le_add_left d j)⟩,Nat.mul_add,Nat.add_sub_cancel,Nat.mul_div_cancel_left _ (by decide),e]
 rfl
section
variable{c:Cx}{sc:Sc}{E:Prop}{N:Nat}{e:Expr}{x y z:CE}{n:Nat}{f:Expr->CE}{w w':Wd}{v u:Value}{o:OV}{m:MV}{σ:Sg}{Γ:List En}{g r:Nat->Option Nat}{t t':Nat}{os:List OV}{vs:List Value}{ls:List (Option Nat)}{outs:List (Option OV)}
theorem Zhv{os:List OV}:∀{vs:List Value} {Γ:List En} {j:Nat} {o:OV},StOk c w (Zdj os vs++Γ)->vs.length=os.length->nth os j=some o->∃v,nth vs j=some v/\RepO c.P w (2*(Γ.length+j)+1) o v:=by
 induction os with
 |nil=>exactλ_ _ e=>ns e
 |cons o os ih=>
  intro vs Γ j p h hl e
  cases vs with
  |nil=>exact Nat.noConfusion hl
  |cons v vs=>
   rw[Yf]at h
   cases j with
   |zero=>exact⟨v,rfl,Option.some.inj e▸(StOk.low h).1⟩
   |succ j=>exact(ih h (Nat.succ.inj hl) e).elim λv z=>⟨v,z.1,by rw[show Γ.length+(j+1)=(En.o o (.none)::Γ).length+j from(Nat.succ_add_eq_add_succ _ _).symm];exact z.2⟩
theorem Zvh{ls:List (Option Nat)}:∀{outs:List (Option OV)} {σ:Sg},EnvS c w σ->(∀j i o,nth ls j=some (some i)->nth outs j=some (some o)->∃v,c.vl w i=some v/\RepO c.P w (2*i) o v)->EnvS c w (Zdd σ ls outs):=by
 induction ls with
 |nil=>exactλI _=>I
 |cons l ls ih=>
  intro outs σ I h
  cases outs with
  |nil=>exact I
  |cons o outs=>
   refine ih (outs:=outs) ?_ λj=>h (j+1)
   cases l with
   |none=>exact I
   |some i=>exactλj p e=>(Ut e).elim (λq=>I j p q.2) λq=>q.1▸h 0 i p rfl (congrArg some q.2.symm)
theorem Inv.back(B:Beg c){Δ:List En}(I:Inv c w σ (Δ++Γ))(S:Stp c (λ_=>True) (cw w g) w')(hg:∀t,(g t).isSome=true->Up Γ.length t)(ru:RepO c.P w' t o u)(hr:r t=some (2*Γ.length+1))
  (ro:∀j i p,nth ls j=some (some i)->nth outs j=some (some p)->∃v s,c.vl w i=some v/\RepO c.P w' s p v/\r s=some (2*i)):Inv c (bk w w' g r) (Zdd σ ls outs) (.o o u::Γ):=by
 have T:=Stp.call (r:=r) B I.iv S
 exact⟨T.iv B I.iv,Zvh (T.enS (λi h=>Up.even (hg _ h)) I.en) λj i p h1 h2=>(ro j i p h1 h2).elim λv z=>z.elim λs z=>⟨v,(T.val i).trans z.1,z.2.1.bk z.2.2⟩,ru.bk hr,T.stOk (λj hj h=>Up.low hj (hg _ h)) (StOk.low I.st)⟩
theorem Zfx(B:Blk c sc)(R:ZHd c N){a:Nat}{K:OV->List (Option OV)->Prop}(C:CallP N E a os K)(I:Inv c w σ (Zdj os vs++Γ))(hl:vs.length=os.length)(L:LsOk c w ls vs){Qv:Value->Shared->Prop}{Ev:Value->Shared->Prop}
  (H:∀w' o outs u,K o outs->Inv c w' (Zdd σ ls outs) (.o o u::Γ)->Qv u w'.s)(Er:Er c E Ev):wpAny c.M c.A (call (.ref a) vs) Qv Ev w.s:=by
 refine wpAny_call (C.h c B.toBase R (cw w (gk Γ.length 0)) vs (I.pre B) hl (λj p h=>?_) _ (λo outs u w' k S ru ro=>?_) λe a s' T=>Er e a s' (T.fl B.toBeg I.iv))
 .have h':nth os j=some p:=by
   clear I C H L hl
   revert j
   induction os with
   |nil=>exactλj h=>ns h
   |cons o os ih=>exactλj h=>match j,h with
    |0,h=>Option.some.inj h
    |j+1,h=>ih j h
  exact(Zhv I.st hl h').elim λv z=>⟨v,z.1,z.2.cw ZMc⟩
 .refine H (bk w w' (gk Γ.length 0) (rk Γ.length 0 1 ls)) o outs u k (I.back B.toBeg S (λt=>ZMb) ru (if_pos rfl) λj i p h1 h2=>?_)
  obtain⟨v,h3,h4⟩:=L j i h1
  obtain⟨v',h5,h6⟩:=ro j p h2
  exact⟨v,_,h4,Option.some.inj (h5.symm.trans h3)▸h6,ZJm (d:=0) (Ztd (j:=0)) h1⟩
theorem Zic(B:Blk c sc)(hf:∀e,OkE c E N e (f e)){pos:Pos}{fv:Value}{first:List Value}{es:List Expr}{ps:List Pol}(hs:es.any Zd=false)(hk:keepIn c.K fv=true){Q:List OV->List (Option Nat)->Sg->Prop}
  (q:(mg N (Xy (pth sc c.xs n) f ps es)).a E σ Q)(I:Inv c w σ Γ){Qv:Value->Shared->Prop}{Ev:Value->Shared->Prop}
  (K:∀w' vs os ls σ',vs.length=os.length->Q os ls σ'->Inv c w' σ' (Zdj os vs++Γ)->LsOk c w' ls vs->wpAny c.M c.A (call fv (first++vs)) Qv Ev w'.s)(R:Er c E Ev):wpAny c.M c.A (callWith pos fv first (backTo pos (starEach es c.env)) []) Qv Ev w.s:=by
 have kin:∀{w' σ' Γ'},Inv c w' σ' Γ'->c.K.In w'.s.heap:=λI=>B.kin.keeps (I.iv.hh B.toBeg)
 cases es with
 |nil=>exact callWith_K0 (kin I) hk (K w [] [] [] σ rfl q I λj i e=>by cases j <;> exact ns e)
 |cons e r=>
  have h:=Bool.or_eq_false_iff.mp (show(Zd e||r.any Zd)=false from hs)
  exact callWith_K (h₀:=c.h₀) B.kin hk (ZGz B hf hs q I (λw vs os ls σ hl q I L=>⟨kin I,K w vs os ls σ hl q I L⟩) R) (Zz h.1) (plain_args h.2)
 where plain_args {env:Env} {pos:Pos}:∀{es:List Expr},es.any Zd=false->(backTo pos (starEach es env)).any (·.1)=false
 | [],_=>rfl
 |e::r,h=>by
  have h:=Bool.or_eq_false_iff.mp (show(Zd e||r.any Zd)=false from h)
  rw[Zz h.1]
  show(false||(backTo pos (starEach r env)).any (·.1))=false
  rw[plain_args h.2];rfl
theorem ZFt(B:Blk c sc)(R:RoomB c N)(hf:∀e,OkE c E N e (f e)){xn:Str}{xp pos:Pos}{es:List Expr}{a:Nat}{fn:Fn}{ps:List Pol}(hs:es.any Zd=false)(hx:sc.lookup xn=some .globalImplicit)(hg:TT.glob xn=some (.con (.ref a)))(ha:TT.fn a=some fn):
  GV c E (eval (.Call (.Name xn xp) es [] pos) c.env) ((mg N (.fn a (Xy (pth sc c.xs n) f ps es))).e E):=λσ Q w Γ q I Qv Ev K Er=>by
 obtain⟨v,r,go⟩:=Zt (pos:=xp) B I.iv hx hg
 rw[show v=.ref a from r.1]at go
 exact Call_Name rfl (go (tk:=w.s.toks) (Zic (first:=[]) B hf hs (B.fns a fn ha).keep q I (λw vs os ls σ hl q I L=>Zfx B R.room q I hl L (λw' o outs u k I=>K w' u o _ (Yy k) I) Er) Er))
end
end
section
open PySem.Calls
section
variable{c:Cx}{sc:Sc}{E:Prop}{N:Nat}{e:Expr}{x y z:CE}{n:Nat}{f:Expr->CE}{w w':Wd}{v u:Value}{o:OV}{m:MV}{σ:Sg}{Γ:List En}{t t':Nat}{os:List OV}{vs:List Value}{ls:List (Option Nat)}{outs:List (Option OV)}
theorem ZXn(i:Int):(i.natAbs:Int)=if i < 0 then -i else i:=by
 split
 .rename_i q;exact Int.ofNat_natAbs_of_nonpos (Int.le_of_lt q)
 .rename_i q;exact Int.natAbs_of_nonneg (Int.not_lt.mp q)
theorem Zx{M:Model}{A:Around}{Ev:Value->Shared->Prop}{env:Env}{fv:Value}{pos:Pos}{es:List Expr}{Q:Value->Shared->Prop}{s:Shared}(hm:(∃T,fv=.type T)\/∃b,fv=.builtin b)(hs:es.any Zd=false)
  (h:wpAny M A (spliced (backTo pos (starEach es env))) (λvs s₁=>wpAny M A (call fv vs) Q Ev s₁) Ev s):wpAny M A (callWith pos fv [] (backTo pos (starEach es env)) []) Q Ev s:=by
 cases es with
 |nil=>
  have h0:wpAny M A (call fv []) Q Ev s:=λΓ p hΓ=>by
   have h1:=h Γ p hΓ
   rw[show spliced (backTo pos (starEach [] env))=pure []from rfl,Sem.wp_pure']at h1
   exact h1 Γ p hΓ
  rcases hm with⟨T,rfl⟩|⟨b,rfl⟩
  .exact callWith_type0 h0
  .exact Calls.callWith_builtin rfl (evalArgs_nil3 h0)
 |cons e r=>
  have h12:=Bool.or_eq_false_iff.mp (show(Zd e||r.any Zd)=false from hs)
  rw[Zz h12.1]at h⊢
  have hp:(false||(backTo pos (starEach r env)).any (·.1))=false:=by rw[Zic.plain_args h12.2];rfl
  rcases hm with⟨T,rfl⟩|⟨b,rfl⟩
  .exact PyProof.Rows.callWith_type hp (evalArgs_plain h)
  .exact Calls.callWith_builtin hp (evalArgs_plain h)
theorem Zha(B:Blk c sc)(hh:c.A.handled=none){b:String}{ms:List MV}(h:builtin b ms=some o)(r:RepFs c.P w.Z ms vs)(I:Inv c w σ Γ){Q:Value->Shared->Prop}{Ev:Value->Shared->Prop}(H:Ans c σ Γ o Q):wpAny c.M c.A (call (.builtin b) vs) Q Ev w.s:=by
 have one:∀{k:MV->Option OV},Zhc ms k=some o->(∀m v,k m=some o->RepF c.P w.Z m v->wpAny c.M c.A (call (.builtin b) [v]) Q Ev w.s)->wpAny c.M c.A (call (.builtin b) vs) Q Ev w.s:=λ{k} h H=>by
  obtain⟨m,rfl,h⟩:=Znd h
  exact r.cons_e (G:=λvs=>wpAny c.M c.A (call (.builtin b) vs) Q Ev w.s) λv ws rv rr=>rr.nil_e (G:=λws=>wpAny c.M c.A (call (.builtin b) (v::ws)) Q Ev w.s) (H m v h rv)
 unfold builtin at h
 by_cases h1:b="len"
 .subst h1;rw[if_pos rfl]at h
  exact one h λm v h rv=>Zrl (o:=.f m) B.toBeg I rv h H
 rw[if_neg h1]at h
 by_cases h2:b="isinstance"
 .subst h2;rw[if_pos rfl]at h
  rcases ms with _|⟨a,_|⟨k,_|⟨z,l⟩⟩⟩
  .exact ns h
  .exact ns h
  .refine Zh h λcv hc h=>Zp h λb hb e=>?_
   cases k with
   |con cv'=>
    cases hc;subst e
    exact r.cons_e (G:=λvs=>wpAny c.M c.A (call (.builtin "isinstance") vs) Q Ev w.s) λv ws rv rr=>rr.cons_e (G:=λws=>wpAny c.M c.A (call (.builtin "isinstance") (v::ws)) Q Ev w.s) λv' ws' rk rr=>rr.nil_e (G:=λws=>wpAny c.M c.A (call (.builtin "isinstance") (v::v'::ws)) Q Ev w.s)
     (rk.1▸Zbr B I.iv hb rv λtk=>I.an B.toBeg H tk rfl)
   |_=>exact ns hc
  .exact ns h
 rw[if_neg h2]at h
 by_cases h3:b="sum"
 .subst h3;rw[if_pos rfl]at h
  exact one h λm v h rv=>ZIu B.toBeg hh I rv h H
 rw[if_neg h3]at h
 by_cases h4:b="min"
 .subst h4;rw[if_pos rfl]at h
  exact one h λm v h rv=>ZLe B.toBeg hh I rv h H
 rw[if_neg h4]at h
 by_cases h5:b="repr"
 .subst h5;rw[if_pos rfl]at h
  exact one h λm v h rv=>Zp h λs h e=>ZCj B.toBeg I rv h (e▸H)
 rw[if_neg h5]at h
 by_cases h6:b="abs"
 .subst h6;rw[if_pos rfl]at h
  exact one h λm v h rv=>Zfo (G:=λv=>wpAny c.M c.A (call (.builtin "abs") [v]) Q Ev w.s) h rv λi t h=>PyProof.Rows.call_abs_int λu tk=>by
   have:=I.int B.toBeg H h u tk
   rw[ZXn i]at this
   exact this
 rw[if_neg h6]at h
 exact ns h
theorem Zqg(B:Blk c sc){t:String}{ms:List MV}(h:Qo t ms=some o)(r:RepFs c.P w.Z ms vs)(I:Inv c w σ Γ){Q:Value->Shared->Prop}{Ev:Value->Shared->Prop}(H:Ans c σ Γ o Q):wpAny c.M c.A (call (.type t) vs) Q Ev w.s:=by
 have one:∀{k:MV->Option OV},Zhc ms k=some o->(∀m v,k m=some o->RepF c.P w.Z m v->wpAny c.M c.A (call (.type t) [v]) Q Ev w.s)->wpAny c.M c.A (call (.type t) vs) Q Ev w.s:=λ{k} h H=>by
  obtain⟨m,rfl,h⟩:=Znd h
  exact r.cons_e (G:=λvs=>wpAny c.M c.A (call (.type t) vs) Q Ev w.s) λv ws rv rr=>rr.nil_e (G:=λws=>wpAny c.M c.A (call (.type t) (v::ws)) Q Ev w.s) (H m v h rv)
 unfold Qo at h
 by_cases h1:t="list"
 .subst h1;rw[if_pos rfl]at h
  exact one h λm v h rv=>Zrk B.toBeg I rv h H
 rw[if_neg h1]at h
 by_cases h2:t="int"
 .subst h2;rw[if_pos rfl]at h
  refine one h λm v h rv=>?_
  cases m with
  |bool b=>exact(show v=.bool b from rv)▸PySem.call_int_bool (by have:=λtk=>I.int B.toBeg H h tk;cases b <;> exact this _ _)
  |_=>exact ns h
 rw[if_neg h2]at h
 by_cases h3:t="str"
 .subst h3;rw[if_pos rfl]at h
  exact one h λm v h rv=>Zp h λs h e=>ZIx B.toBeg I rv h (e▸H)
 rw[if_neg h3]at h
 exact ns h
theorem ZGv(B:Blk c sc)(R:RoomB c N)(hf:∀e,OkE c E N e (f e)){xn:Str}{xp pos:Pos}{es:List Expr}{b:String}(hs:es.any Zd=false)(hx:sc.lookup xn=some .globalImplicit)(hg:TT.glob xn=some (.con (.builtin b))):
  GV c E (eval (.Call (.Name xn xp) es [] pos) c.env) ((mg N (.bi b (Xs f es))).e E):=λσ Q w Γ q I Qv Ev K Er=>by
 obtain⟨v,r,go⟩:=Zt (pos:=xp) B I.iv hx hg
 rw[show v=.builtin b from r.1]at go
 refine Call_Name rfl (go (tk:=w.s.toks) (Zx (.inr ⟨_,rfl⟩) hs (Ja (Q:=λvs σ=>Znq vs λms=>onS (λo=>Q o σ) (builtin b ms)) hf hs q I (λw vs os σ hl _ q I=>?_) Er)))
 obtain⟨w',e,I,r⟩:=I.frzs B.toBeg hl
 obtain⟨o,h,q⟩:=Zo (Zee q)
 rw[<- e]
 exact Zha B R.handled h r I λw v I=>K w v o σ q I
theorem ZBo(B:Blk c sc)(hf:∀e,OkE c E N e (f e)){xn:Str}{xp pos:Pos}{es:List Expr}{b:String}(hs:es.any Zd=false)(hx:sc.lookup xn=some .globalImplicit)(hg:TT.glob xn=some (.con (.type b))):
  GV c E (eval (.Call (.Name xn xp) es [] pos) c.env) ((mg N (.ty b (Xs f es))).e E):=λσ Q w Γ q I Qv Ev K Er=>by
 obtain⟨v,r,go⟩:=Zt (pos:=xp) B I.iv hx hg
 rw[show v=.type b from r.1]at go
 refine Call_Name rfl (go (tk:=w.s.toks) (Zx (.inl ⟨_,rfl⟩) hs (Ja (Q:=λvs σ=>Znq vs λms=>onS (λo=>Q o σ) (Qo b ms)) hf hs q I (λw vs os σ hl _ q I=>?_) Er)))
 obtain⟨w',e,I,r⟩:=I.frzs B.toBeg hl
 obtain⟨o,h,q⟩:=Zo (Zee q)
 rw[<- e]
 exact Zqg B h r I λw v I=>K w v o σ q I
theorem Zrn(B:Blk c sc)(ha:OkE c E N e x){xn:Str}{xp pos:Pos}(hs:Zd e=false)(hx:sc.lookup xn=some .globalImplicit)(hg:TT.glob xn=some (.con (.builtin "len"))):
  GV c E (eval (.Call (.Name xn xp) [e] [] pos) c.env) ((mg N (.lenE x)).e E):=λσ Q w Γ q I Qv Ev K Er=>by
 obtain⟨v,r,go⟩:=Zt (pos:=xp) B I.iv hx hg
 rw[show v=.builtin "len" from r.1]at go
 refine Call_Name rfl (go (tk:=w.s.toks) (Zx (.inr ⟨_,rfl⟩) (by rw[List.any_cons,hs];rfl) ?_))
 rw[Zz hs]
 refine spliced_cons (ha.v q I (λw v o σ q I=>spliced_nil ?_) Er)
 obtain⟨t,h,q⟩:=Zo (Ye q)
 have I:=I.frz B.toBeg
 exact Zrl (w:=fz w _) (o:=.f o.frz) B.toBeg I.pop I.st.1 h λw v I=>K w v t σ q I
theorem Zrm(B:Blk c sc){p:Pa}(hp:pth sc c.xs n e=some p){xn:Str}{xp pos:Pos}(hs:Zd e=false)(hx:sc.lookup xn=some .globalImplicit)(hg:TT.glob xn=some (.con (.builtin "len"))):
  GV c E (eval (.Call (.Name xn xp) [e] [] pos) c.env) ((mg N (.lenP p)).e E):=λσ Q w Γ q I Qv Ev K Er=>by
 obtain⟨v,r,go⟩:=Zt (pos:=xp) B I.iv hx hg
 rw[show v=.builtin "len" from r.1]at go
 refine Call_Name rfl (go (tk:=w.s.toks) (Zx (.inr ⟨_,rfl⟩) (by rw[List.any_cons,hs];rfl) ?_))
 rw[Zz hs]
 obtain⟨o,h1,q⟩:=Zo q
 obtain⟨t,h,q⟩:=Zo (Ye q)
 obtain⟨v,k⟩:=Yq B I hp h1
 exact spliced_cons (k.go λt'=>spliced_nil (Zrl (w:={w with s:={w.s with toks:=t'}}) B.toBeg (I.tok B.toBeg t') (k.rd.tok t') h λw v I=>K w v t σ q I))
theorem Zxi(B:Blk c sc)(R:RoomB c N)(hf:∀e,OkE c E N e (f e)){xn:Str}{xp pos:Pos}{es:List Expr}{i:Nat}{ps:List Pol}(hs:es.any Zd=false)(hp:pth sc c.xs n (.Name xn xp)=some (.v i)):
  GV c E (eval (.Call (.Name xn xp) es [] pos) c.env) ((mg N (.fnv i (Xy (pth sc c.xs n) f ps es))).e E):=λσ Q w Γ q I Qv Ev K Er=>by
 obtain⟨o,h1,q⟩:=Zo q
 obtain⟨v,k⟩:=Yq B I hp h1
 cases o with
 |f m=>
  obtain⟨cv,h2,q⟩:=Zo q
  cases m with
  |con cv'=>
   cases h2
   cases cv with
   |ref a=>
    obtain⟨ha,q⟩:=Zfe q
    obtain⟨fn,ha⟩:=Option.isSome_iff_exists.mp ha
    have e:v=.ref a:=(show RepF c.P w.Z (.con (.ref a)) v from k.rd).1
    have go:=λ{Q E}=>k.go (tk:=w.s.toks) (Q:=Q) (E:=E)
    rw[e]at go
    exact Call_Name rfl (go λt=>Zic (w:={w with s:={w.s with toks:=t}}) (first:=[]) B hf hs (B.fns a fn ha).keep q (I.tok B.toBeg t) (λw vs os ls σ hl q I L=>Zfx B R.room q I hl L (λw' o outs u k I=>K w' u o _ (Yy k) I) Er) Er)
   |_=>exact q.elim
  |_=>exact ns h2
 |_=>exact q.elim
end
end
section
open PySem.Calls
section
variable{c:Cx}{sc:Sc}{E:Prop}{N:Nat}{e:Expr}{x y z:CE}{n:Nat}{f:Expr->CE}{w w':Wd}{v u:Value}{o:OV}{m:MV}{σ:Sg}{Γ:List En}{t t':Nat}{os:List OV}{vs:List Value}{ls:List (Option Nat)}{outs:List (Option OV)}
noncomputable def Cx.alt(c:Cx)(A:Around)(env:Env)(l:List Env)(xs:List Str)(s1:Shared)(Z1:Zf)(W1:Ow)(fix:Bool)(pins:Nat->Option Value)(pn:List Nat):Cx:={c with A:=A,env:=env,l:=l,xs:=xs,s1:=s1,Z1:=Z1,W1:=W1,fix:=fix,pins:=pins,pn:=pn}
theorem Base.alt{A:Around}{env:Env}{l:List Env}{xs:List Str}{s1:Shared}{Z1:Zf}{W1:Ow}{fix:Bool}{pins:Nat->Option Value}{pn:List Nat}(B:Base c):Base (c.alt A env l xs s1 Z1 W1 fix pins pn):=by
 have hf:∀{a fn},Zuo c a fn->Zuo (c.alt A env l xs s1 Z1 W1 fix pins pn) a fn:=λF=>⟨F.ex,F.kinds,F.nodup,F.lend,F.cells,F.keep,F.names⟩
 have X:=B.bad
 refine⟨B.kin,B.nolimit,B.glob,B.attr,B.plain,λa fn e=>hf (B.fns a fn e),λa i e1 e2=>(λC=>⟨C.keep,C.makes,C.init,C.fn⟩) (B.cls a i e1 e2),λcl a f e=>(λC=>⟨C.plain,C.find,C.fn⟩) (B.meth cl a f e),⟨X.exc,X.obj,X.glob,?_,X.look,X.sa,X.reason,X.keep⟩⟩
 exact X.init.elim λi h=>h.elim λfn h=>⟨i,fn,h.1,h.2.1,hf h.2.2.ok,h.2.2.params,h.2.2.kself,h.2.2.kreason,h.2.2.kv,h.2.2.body⟩
noncomputable def Cx.under(c:Cx)(k:Code):Cx:=c.alt (c.A.under k) c.env c.l c.xs c.s1 c.Z1 c.W1 c.fix c.pins c.pn
theorem Base.under{k:Code}(B:Base c):Base (c.under k):=B.alt
theorem RoomB.under{C:Addr}{args:List Value}(R:RoomB c N):ZHd (c.under (.builtin "type.__call__" ⟨.ref C::args,[]⟩)) N:=by
 refine⟨R.handled,show pushEnvs [] c.A.frames=some c.l from R.frames,show c.A.depth+1+2*N+10 < recursionLimit by rw[Nat.add_right_comm c.A.depth];exact R.depth,show c.A.units+1+20*N+100 < cLine by rw[Nat.add_right_comm c.A.units];exact Nat.lt_of_le_of_lt (Nat.add_le_add_left (by decide:101<=110) _) R.units⟩
noncomputable def gC(k T t:Nat):Option Nat:=if t=T then some 0 else gk k 1 t
theorem ZEc(B:Blk c sc)(R:RoomB c N){a i:Nat}(C:ZOp c a i){K:OV->List (Option OV)->Prop}(P:CallP N E i (.o a []::os) λv outs=>ZEe v outs K)(I:Inv c w σ (Zdj os vs++Γ))(hl:vs.length=os.length)(L:LsOk c w ls vs){Qv:Value->Shared->Prop}{Ev:Value->Shared->Prop}
  (H:∀w' o outs u,K o outs->Inv c w' (Zdd σ ls outs) (.o o u::Γ)->Qv u w'.s)(Er:Er c E Ev):wpAny c.M c.A (call (.ref a) vs) Qv Ev w.s:=by
 have X:c.K.In w.s.heap:=B.kin.keeps (I.iv.hh B.toBeg)
 refine wpAny_call (make_core (makes_of X C.makes) (looks_findIn X C.init) (λself=>bind_fn X self C.fn) (.inl rfl) ?_)
 have k1:∀a o,w.s.heap.get? a=some o->(w.s.heap.push emptyDict).get? a=some o:=λ_ _ e=>Heap.get?_push_of_some _ e
 have hd:=Heap.get?_push_size w.s.heap (o:=emptyDict) rfl
 have hsz:(w.s.heap.push emptyDict).objs.size=w.s.heap.objs.size+1:=Heap.size_push ..
 let T:=2*(Zdj os vs++Γ).length+1
 let w1:=alc w (w.s.heap.push emptyDict) w.s.heap.objs.size w.s.toks (some (T,none)) (w.Z w.s.heap.objs.size)
 have zn:=I.iv.zn (Zl w.s.heap)
 have S1:Stp c (Up (Zdj os vs++Γ).length) w w1:=.alc I.iv k1 (Zl _) hd (λq e=>ns2 zn e) λ_=>zn
 have I1:=I.next B.toBeg S1
 let w2:=alc w1 ((w.s.heap.push emptyDict).push (instObj a w.s.heap.objs.size)) (w.s.heap.push emptyDict).objs.size w.s.toks (some (T,none)) (w1.Z (w.s.heap.push emptyDict).objs.size)
 have zn1:=I1.iv.zn (Zl (w.s.heap.push emptyDict))
 have hx:=Heap.get?_push_size (w.s.heap.push emptyDict) (o:=instObj a w.s.heap.objs.size) rfl
 have S2:Stp c (Up (Zdj os vs++Γ).length) w1 w2:=.alc I1.iv (λ_ _ e=>Heap.get?_push_of_some _ e) (Zl _) hx (λq e=>ns2 zn1 e) λ_=>zn1
 have ne:w.s.heap.objs.size≠(w.s.heap.push emptyDict).objs.size:=by rw[hsz];exact Nat.ne_of_lt (Nat.lt_succ_self _)
 have I2:Inv c w2 σ (.o (.o a []) (.ref (w.s.heap.push emptyDict).objs.size)::(Zdj os vs++Γ)):=I1.push B.toBeg S2 ⟨_,_,[],0,rfl,if_pos rfl,(if_neg ne).trans (if_pos rfl),hx,Heap.get?_push_of_some _ hd,rfl⟩
 rw[<- hsz]
 have P2:Pre c (cw w2 (gC Γ.length T)):=Inv.pre B I2
 refine P.h (c.under _) B.toBase.under R.under (cw w2 (gC Γ.length T)) (.ref (w.s.heap.push emptyDict).objs.size::vs) ⟨P2.h0,P2.zok,P2.wz,P2.fl,P2.frs,P2.gens⟩ (congrArg (·+1) hl) (λj p h=>?_) _ (λo outs u w' k S ru ro=>?_) λe a s' F=>Er e a s' (Thrown.fl B.toBeg I2.iv (g:=gC Γ.length T) ⟨F.kept,F.gens,F.os,F.fly⟩)
 .cases j with
  |zero=>
   cases(Option.some.inj (Option.some.inj h))
   exact⟨_,rfl,RepO.cw I2.st.1 (if_pos rfl)⟩
  |succ j=>
   have h':nth os j=some p:=some_nth h
   have lt:j < os.length:=Zdv h'
   refine(Zhv I2.st.2 hl h').elim λv z=>⟨v,z.1,z.2.cw ?_⟩
   have:T=2*(os.length+Γ.length)+1:=by show 2*(Zdj os vs++Γ).length+1=_;rw[List.length_append,ents_len hl]
   exact(if_neg λe=>absurd (Nat.eq_of_mul_eq_mul_left (by decide) (Nat.succ.inj (e.trans this))) (Nat.ne_of_lt (by rw[Nat.add_comm];exact Nat.add_lt_add_right lt _))).trans ZMc
 .obtain⟨self,r,rfl,rfl,k⟩:=madeK_e k
  obtain⟨v0,h0,r0⟩:=ro 0 self rfl
  cases h0
  refine⟨ru,H (bk w2 w' (gC Γ.length T) (rk Γ.length 1 0 ls)) self r _ k (Inv.back (Δ:=.o (.o a []) _::Zdj os vs) (t:=0) B.toBeg I2 ⟨S.kept,S.zsub,S.zok,S.znew,S.wz,S.wnew,S.same,S.m,S.cm,S.os,S.gens⟩ (λt h=>?_) r0 (if_pos rfl) λj i p h1 h2=>?_)⟩
  .by_cases q:t=T
   .exact⟨(Zdj os vs++Γ).length,by rw[List.length_append];exact Nat.le_add_left _ _,q⟩
   .exact ZMb (d:=1) ((if_neg q:gC Γ.length T t=_)▸h)
  .obtain⟨v,h3,h4⟩:=L j i h1
   obtain⟨v',h5,h6⟩:=ro (j+1) p h2
   exact⟨v,_,(S2.val i).trans ((S1.val i).trans h4),Option.some.inj (h5.symm.trans h3)▸h6,ZJm (d:=1) (λe=>Nat.succ_ne_zero (2*j+1) e) h1⟩
 where
 some_nth {os:List OV} {p:OV}:∀{j:Nat},nth (os.map some) j=some (some p)->nth os j=some p:=by
  induction os with
  |nil=>exactλh=>ns h
  |cons o os ih=>exactλ{j} h=>match j,h with
   |0,h=>Option.some.inj h
   |j+1,h=>ih h
 Zdv {os:List OV} {p:OV}:∀{j:Nat},nth os j=some p->j < os.length:=by
  induction os with
  |nil=>exactλh=>ns h
  |cons o os ih=>exactλ{j} h=>match j,h with
   |0,h=>Nat.succ_pos _
   |j+1,h=>Nat.succ_lt_succ (ih h)
 ents_len {os:List OV}:∀{vs:List Value},vs.length=os.length->(Zdj os vs).length=os.length:=λ{vs} h=>by
  unfold Zdj
  rw[List.length_reverse,List.length_zipWith,h,Nat.min_self]
 madeK_e {v:OV} {outs:List (Option OV)} {K:OV->List (Option OV)->Prop} (h:ZEe v outs K):∃self r,v=.f .none/\outs=some self::r/\K self r:=by
  cases v with
  |f m=>cases m with
   |none=>cases outs with
    |nil=>exact h.elim
    |cons o r=>exact(Zo (show onS (λself=>K self r) o from h)).elim λself q=>⟨self,r,rfl,by rw[q.1],q.2⟩
   |_=>exact h.elim
  |_=>exact h.elim
theorem Zyk(B:Blk c sc)(R:RoomB c N)(hf:∀e,OkE c E N e (f e)){xn:Str}{xp pos:Pos}{es:List Expr}{a i:Nat}{ps:List Pol}(hs:es.any Zd=false)(hx:sc.lookup xn=some .globalImplicit)(hg:TT.glob xn=some (.con (.ref a)))(ha:TT.fn a=none)(hi:TT.meth a "__init__"=some i):
  GV c E (eval (.Call (.Name xn xp) es [] pos) c.env) ((mg N (.cls a i (Xy (pth sc c.xs n) f ps es))).e E):=λσ Q w Γ q I Qv Ev K Er=>by
 obtain⟨v,r,go⟩:=Zt (pos:=xp) B I.iv hx hg
 rw[show v=.ref a from r.1]at go
 have C:=B.cls a i ha hi
 exact Call_Name rfl (go (tk:=w.s.toks) (Zic (first:=[]) B hf hs C.keep q I (λw vs os ls σ hl q I L=>ZEc B R C q I hl L (λw' o outs u k I=>K w' u o _ (Yy k) I) Er) Er))
theorem Zik:∀{l:List (Bool×Sem Value)},l.any (·.1)=false->l.all (λx=>!x.1)=true
 | [],_=>rfl
 |(b,t)::r,h=>by
  simp only[List.any_cons,Bool.or_eq_false_iff]at h
  rw[List.all_cons,Zik h.2,h.1];rfl
theorem Xx{s:Shared}{A:Around}{E:Value->Shared->Prop}{env:Env}{o:Expr}{name:Str}{apos pos:Pos}{args:List Expr}{Q:Value->Shared->Prop}
  (hbase:attributeBase o name env (eval o env)=eval o env)(hs:args.any Zd=false)(hn:args.length < 30)(hline:(apos.endLine==pos.line)=true)
  (h:wpAny c.M A (eval o env) (λov s₁=>∀pl,wpAny c.M A (getMethod ov name pl) (λfx s₂=>wpAny c.M A (callWith pos fx.1 fx.2 (backTo pos (starEach args env)) []) Q E s₂) E s₁) E s):
  wpAny c.M A (eval (.Call (.Attribute o name apos) args [] pos) env) Q E s:=by
 rw[arm_eval_Call,hbase]
 refine wpAny_bind (wpAny_mono h (λov s₁ h₁=>?_) λ_ _ e=>e)
 refine wpAny_bind (wpAny_standAt ?_)
 have hform:methodCallForm (args.length+([]:List Keyword).length) (backTo pos (starEach args env)) (backToKw pos (keywordEach [] env))=true:=by
  unfold methodCallForm
  rw[Zik (Zic.plain_args hs)]
  simp only[Bool.true_and,List.length_nil,Nat.add_zero]
  show(true&&decide (args.length+0 < 30))=true
  simpa using hn
 have hpos:methodCallPos true o env apos pos=pure pos:=by unfold methodCallPos;simp[hline]
 unfold methodCall
 rw[hform]
 refine wpAny_bind (wpAny_holding (wpAny_mono (h₁ _) (λfx s₂ h₂=>?_) λ_ _ e=>e))
 exact wpAny_bind (wpAny_of_eq hpos h₂)
theorem Zsl{P:Px}{y:Str}{e:DictEntry}{q:List DictEntry}{x:Str}(h:Zcy P y e)(n:y≠x)(r:getL x q=some none):getL x (e::q)=some none:=by
 obtain⟨⟨t,hk⟩,_⟩:=h
 unfold getL at r⊢
 rw[List.find?_cons,hk,show(Value.str y t).isStr x=false by simp[Value.isStr,n]]
 cases hf:q.find? (·.key.isStr x)with
 |some e'=>rw[hf]at r;cases r
 |none=>
  rw[hf]at r
  simp only at r⊢
  rw[List.any_cons,show e.refKey=false by simp[DictEntry.refKey,hk]]
  simpa using r
theorem Zfj{α:Type}{p:Str×α}{r:List (Str×α)}{x:Str}(h:(p::r).lookup x=none):p.1≠x/\r.lookup x=none:=by
 rw[List.lookup_cons]at h
 by_cases q:x=p.1
 .rw[q,beq_self_eq_true]at h;exact ns h.symm
 .rw[beq_eq_false_iff_ne.mpr q]at h;exact⟨Ne.symm q,h⟩
theorem RepD.no{P:Px}{Z:Zf}{cl:Nat}{x:Str}{fs:List (Str×MV)}:∀{es:List DictEntry},RepD P Z cl fs es->fs.lookup x=none->getL x es=some none:=by
 induction fs with
 |nil=>exactλ{es} h _=>by rw[show es=[]from h];rfl
 |cons p r ih=>
  rintro es ⟨e,q,rfl,h1,_,_,h4⟩ h
  exact Zsl h1 (Zfj h).1 (ih h4 (Zfj h).2)
theorem RepOD.no{P:Px}{cl:Nat}{x:Str}{fs:List (Str×OF)}:∀{es:List DictEntry},RepOD P w t cl fs es->fs.lookup x=none->getL x es=some none:=by
 induction fs with
 |nil=>exactλ{es} h _=>by rw[show es=[]from h];rfl
 |cons p r ih=>
  rintro es ⟨e,q,rfl,h1,_,_,_,h4⟩ h
  exact Zsl h1 (Zfj h).1 (ih h4 (Zfj h).2)
theorem Zzr{i:Nat}{a:Str}{cl:Nat}{K:OV->Prop}(h:ZJq i a cl σ K):∃o,nth σ i=some (some o)/\K o/\((∃fs,o=.f (.obj cl fs)/\fs.lookup a=none)\/∃fs,o=.o cl fs/\fs.lookup a=none):=by
 obtain⟨o,h1,h⟩:=Zo h
 refine⟨o,Zjg h1,?_⟩
 cases o with
 |f m=>
  cases m with
  |obj c' fs=>
   obtain⟨h2,h⟩:=Zfe h
   obtain⟨h3,h⟩:=Zfe h
   cases Nat.eq_of_beq_eq_true h2
   exact⟨h,.inl ⟨fs,rfl,Option.isNone_iff_eq_none.mp h3⟩⟩
  |_=>exact h.elim
 |o c' fs=>
  obtain⟨h2,h⟩:=Zfe h
  obtain⟨h3,h⟩:=Zfe h
  cases Nat.eq_of_beq_eq_true h2
  exact⟨h,.inr ⟨fs,rfl,Option.isNone_iff_eq_none.mp h3⟩⟩
 |l _=>exact h.elim
theorem Zrb(B:Blk c sc)(R:RoomB c N)(hf:∀e,OkE c E N e (f e)){xn:Str}{xp ap pos:Pos}{a:Str}{es:List Expr}{cl i g:Nat}{fn:Fn}{ps:List Pol}(hs:es.any Zd=false)(hn:es.length < 30)(hline:(ap.endLine==pos.line)=true)(hp:pth sc c.xs n (.Name xn xp)=some (.v i))(hm:TT.meth cl a=some g)(hg:TT.fn g=some fn):
  GV c E (eval (.Call (.Attribute (.Name xn xp) a ap) es [] pos) c.env) ((mg N (.meth i a cl g (Xy (pth sc c.xs n) f ps es))).e E):=λσ Q w Γ q I Qv Ev K Er=>by
 have q:ZJq i a cl σ λ_=>(mg N (Xy (pth sc c.xs n) f ps es)).a E σ λvs ls σ=>ZJq i a cl σ λself=>CallP N E g (self::vs) λv outs=>onB (stK (Zdd σ (none::ls) outs) (Q v)) (stK (Zdd (put σ i none) (some i::ls) outs) (Q v)) (Znj self):=q
 obtain⟨o,h1,q,ho⟩:=Zzr q
 obtain⟨v,k⟩:=Yq (σ:=σ) (o:=o) B I hp (by show kn (nth σ i)=_;rw[h1];rfl)
 have ro:RepO c.P w (2*i) o v:=(I.en i o h1).elim λv' z=>Option.some.inj (z.1.symm.trans k.pv)▸z.2
 refine Xx rfl hs hn hline (k.go (tk:=w.s.toks) λtk pl=>?_)
 have at_:∃xa d es k,v=.ref xa/\w.s.heap.get? xa=some (instObj cl d)/\w.s.heap.get? d=some (dictOf es k)/\getL a es=some none:=by
  rcases ho with⟨fs,rfl,hno⟩|⟨fs,rfl,hno⟩
  .exact RepF.obj_e (G:=λv=>∃xa d es k,v=.ref xa/\w.s.heap.get? xa=some (instObj cl d)/\w.s.heap.get? d=some (dictOf es k)/\getL a es=some none) ro λxa d es k z1 z2 rd=>⟨xa,d,es,k,rfl,I.iv.zok _ _ z1,I.iv.zok _ _ z2,rd.no hno⟩
  .exact RepO.o_e (G:=λv=>∃xa d es k,v=.ref xa/\w.s.heap.get? xa=some (instObj cl d)/\w.s.heap.get? d=some (dictOf es k)/\getL a es=some none) ro λxa d es k _ _ z1 z2 rd=>⟨xa,d,es,k,rfl,z1,z2,rd.no hno⟩
 obtain⟨xa,d,des,kn',rfl,z1,z2,hl⟩:=at_
 have M:=B.meth cl a g hm
 refine method_fn (s:={w.s with toks:=tk}) (B.kin.keeps (I.iv.hh B.toBeg)) (⟨z1,rfl,rfl,z2⟩:InstAt w.s.heap xa (instObj cl d) cl (some (dictOf des kn'))) (plainGet_of M.plain).1 (plainGet_of M.plain).2 M.find (beq_iff_eq.mp M.fn) (by show(lookIn a (dictOf des kn')).map _=_;rw[lookIn_dict,hl];rfl) ?_
 have I':Inv c w σ (.al i (.ref xa)::Γ):=⟨I.iv,I.en,k.pv,I.st⟩
 refine Zic (w:={w with s:={w.s with toks:=tk}}) (first:=[.ref xa]) B hf hs (B.fns g fn hg).keep q (I'.tok B.toBeg tk) (λw vs os ls σ hl q I L=>?_) Er
 obtain⟨self,h2,q,hs⟩:=Zzr q
 have low:c.vl w i=some (.ref xa):=(StOk.low (Γ:=.al i (.ref xa)::Γ) I.st).1
 rcases hs with⟨fs,rfl,_⟩|⟨fs,rfl,_⟩
 .refine Zfx (os:=.f (.obj cl fs)::os) (vs:=.ref xa::vs) (ls:=none::ls) (Γ:=Γ) B R.room q (Yf▸⟨I.iv,I.en,?_⟩) (congrArg (·+1) hl) L.none (λw' o outs u k I=>K w' u o _ (Yy k) I) Er
  have S:Stp c (·=2*0) w w:=⟨λa o e _=>.inl e,λ_ _ e=>e,I.iv.zok,λ_ _ e=>.inl e,I.iv.wz,λ_ h=>.inl h,λ_ _ _ _ e=>⟨e,rfl⟩,rfl,rfl,rfl,rfl⟩
  exact StOk.app (Γ:=.al i (.ref xa)::Γ) (Γ':=.o (.f (.obj cl fs)) (.ref xa)::Γ) S rfl (λk=>⟨(I.en i _ h2).elim λv' z=>(show RepF c.P w.Z (.obj cl fs) (.ref xa)from Option.some.inj (z.1.symm.trans low)▸z.2),k.2⟩) I.st
 .exact Zfx (w:=rtg w _ _) (os:=.o cl fs::os) (vs:=.ref xa::vs) (ls:=some i::ls) (Γ:=Γ) B R.room q (Yf▸I.take B h2) (congrArg (·+1) hl) (LsOk.cons L λj e=>Option.some.inj e▸low) (λw' o outs u k I=>K w' u o _ (Yy k) I) Er
end
end
section
open PySem.Calls
noncomputable def Xv:Expr->Bool
 | .Tuple ..=>true
 |_=>false
noncomputable def Got(P:Px)(Zi:Zf)(h h':Heap)(m:MV)(v:Value):Prop:=
 RepF P Zi m v\/∃T vs n ts,v=.ref T/\m=.tup ts/\h.get? T=none/\h'.get? T=some (Zuq vs n)/\RepFs P Zi ts vs/\ts.length<=Zb
structure Wk(c:Cx)(I:Addr)(fp wr:Addr->Prop)(ms:List MV)(Zi:Zf)(tup:Bool)(St:Nat->Heap->Prop):Prop where
 frame:∀i h h',St i h->(∀b,fp b->∀o,h.get? b=some o->h'.get? b=some o)->St i h'
 item:∀i m (s:Shared) target (Q:Value->Shared->Prop) (E:Value->Shared->Prop),(tup=true->Xv target=true)->ms[i]?=some m->St i s.heap->
  (∀v h' tk,Got c.P Zi s.heap h' m v->St (i+1) h'->(∀b o,¬wr b->s.heap.get? b=some o->h'.get? b=some o)->Q v {s with heap:=h',toks:=tk})->
  wpAny c.M c.A (pyNext (.ref I)) (λr s₁=>match r with|none=>False|some v=>wpAny c.M c.A (letOwnedTupleGo target (.ref I) v) (λ_ s₂=>Q v s₂) E s₁) E s
 done:∀(s:Shared) (Q:Option Value->Shared->Prop) (E:Value->Shared->Prop),St ms.length s.heap->
  (∀h' tk,(∀b o,¬wr b->s.heap.get? b=some o->h'.get? b=some o)->Q none {s with heap:=h',toks:=tk})->wpAny c.M c.A (pyNext (.ref I)) Q E s
 self:∀i (s:Shared) (Q:Value->Shared->Prop) (E:Value->Shared->Prop),St i s.heap->Q (.ref I) s->wpAny c.M c.A (pyIter (.ref I)) Q E s
 live:∀i h,St i h->∀b,wr b->∃o,h.get? b=some o
section
variable{c:Cx}
theorem Jb{s:Shared}{target:Expr}{I:Addr}{v:Value}{o:Obj}{n:String}{Q:Unit->Shared->Prop}{E:Value->Shared->Prop}(ho:s.heap.get? I=some o)(hc:o.cls=.type n)
  (hn:["enumerate","zip","dict_itemiterator","dict_reverseitemiterator","odict_iterator","itertools.zip_longest","itertools.pairwise"].contains n=false)(h:Q () s):
  wpAny c.M c.A (letOwnedTupleGo target (.ref I) v) Q E s:=by
 have go:∀{es:List Expr} {k:Nat} {p:Pos},wpAny c.M c.A (letOwnedTupleGo (.Tuple es k p) (.ref I) v) Q E s:=λ{es k p}=>by
  cases v with
  |ref a=>
   refine wpAny_bind (wpAny_load ho ?_)
   rw[hc]
   cases hd:o.data with
   |fields vs=>simp only[hn,Bool.false_and,Bool.false_eq_true,if_false];exact wpAny_pure h
   |_=>exact wpAny_pure h
  |_=>exact wpAny_pure h
 cases target with
 |Tuple es k p=>exact go
 |List es p=>exact go (es:=es) (k:=0) (p:=p)
 |_=>exact wpAny_pure h
theorem ZBl(hh:c.A.handled=none){I ax:Addr}(hne:ax≠I){Zi:Zf}{ms:List MV}{vs:List Value}(r:RepFs c.P Zi ms vs):
  Wk c I (λb=>b=I\/b=ax) (·=I) ms Zi false (λi h=>h.IsListIter I ax i/\h.IsList ax vs.toArray) where
 frame:=λ_ _ _ st hk=>⟨st.1.at λo e=>hk I (.inl rfl) o e,st.2.at λo e=>hk ax (.inr rfl) o e⟩
 item:=λi m s target Q E _ hm st hQ=>(r.get hm).elim λv q=>by
  refine wpAny_pyNext_list_item st.1 st.2 (x:=v) (by simpa using q.1) λh' hit' hs'=>?_
  obtain⟨o,ho,hc,_⟩:=id hit'
  exact Jb (s:={s with heap:=h'}) ho hc (by decide) (hQ v h' s.toks (.inl q.2) ⟨hit',st.2.extBut hs'.extBut hne⟩ hs'.extBut)
 done:=λs Q E st hQ=>wpAny_pyNext_list_end hh st.1 st.2 (by simp[r.length]) λh' he'=>hQ h' s.toks he'
 self:=λ_ _ _ _ st hQ=>wpAny_pyIter_listiter st.1 hQ
 live:=λ_ _ st b hb=>hb▸st.1.elim λo h=>⟨o,h.1⟩
theorem Zuy(hh:c.A.handled=none){I ax:Addr}(hne:ax≠I){Zi:Zf}{ms:List MV}{vs:List Value}(r:RepFs c.P Zi ms vs):
  Wk c I (λb=>b=I\/b=ax) (·=I) ms Zi false (λi h=>h.IsTupleIter I ax i/\h.IsTuple ax vs.toArray) where
 frame:=λ_ _ _ st hk=>⟨st.1.elim λo q=>⟨o,hk I (.inl rfl) o q.1,q.2⟩,st.2.elim λo q=>⟨o,hk ax (.inr rfl) o q.1,q.2⟩⟩
 item:=λi m s target Q E _ hm st hQ=>(r.get hm).elim λv q=>by
  refine wpAny_pyNext_tuple_item st.1 st.2 (x:=v) (by simpa using q.1) λh' hit' hs'=>?_
  obtain⟨o,ho,hc,_⟩:=id hit'
  exact Jb (s:={s with heap:=h'}) ho hc (by decide) (hQ v h' s.toks (.inl q.2) ⟨hit',st.2.elim λo q=>⟨o,hs'.extBut ax o hne q.1,q.2⟩⟩ hs'.extBut)
 done:=λs Q E st hQ=>wpAny_pyNext_tuple_end hh st.1 st.2 (by simp[r.length]) λh' he'=>hQ h' s.toks he'
 self:=λ_ _ _ _ st hQ=>wpAny_pyIter_tupleiter st.1 hQ
 live:=λ_ _ st b hb=>hb▸st.1.elim λo h=>⟨o,h.1⟩
theorem Zgp{x:Str}{i:Nat}{m:MV}(h:(Zde x)[i]?=some m):∃k,x.cps[i]?=some k/\m=.str ⟨#[k]⟩:=by
 unfold Zde at h
 rw[List.getElem?_map]at h
 exact Zp h λk hk e=>⟨k,by simpa using hk,e.symm⟩
theorem Ji{x:Str}:(Zde x).length=x.cps.size:=by unfold Zde;simp
theorem Zpc(x:Str):(x.cps.all (· < 128)=true/\strIterType x="str_ascii_iterator")\/(x.cps.all (· < 128)=false/\strIterType x="str_iterator"):=by
 unfold strIterType
 cases ha:x.cps.all (· < 128)with
 |true=>exact .inl ⟨rfl,if_pos rfl⟩
 |false=>exact .inr ⟨rfl,if_neg (by decide)⟩
theorem ZIc(hh:c.A.handled=none){I:Addr}{Zi:Zf}{x:Str}{t:Tok}:Wk c I (·=I) (·=I) (Zde x) Zi false (λi h=>h.IsStrIter I (strIterType x) x t i) where
 frame:=λ_ _ _ st hk=>st.elim λo q=>⟨o,hk I rfl o q.1,q.2⟩
 item:=λi m s target Q E _ hm st hQ=>(Zgp hm).elim λk q=>by
  obtain⟨hk,rfl⟩:=q
  have fin:∀h':Heap,h'.IsStrIter I (strIterType x) x t (i+1)->Heap.SameBut I s.heap h'->wpAny c.M c.A (letOwnedTupleGo target (.ref I) (.str ⟨#[k]⟩ s.toks)) (λ_ s₂=>Q (.str ⟨#[k]⟩ s.toks) s₂) E {s with heap:=h',toks:=s.toks+1}:=λh' hit' hs'=>by
   obtain⟨o,ho,hc,_⟩:=id hit'
   refine Jb (s:={s with heap:=h',toks:=s.toks+1}) ho hc ?_ (hQ _ h' _ (.inl ⟨s.toks,rfl⟩) hit' hs'.extBut)
   rcases Zpc x with⟨_,e⟩|⟨_,e⟩ <;> rw[e] <;> decide
  rcases Zpc x with⟨_,e⟩|⟨_,e⟩
  .rw[e]at st fin;exact wpAny_pyNext_ascii_item st hk fin
  .rw[e]at st fin;exact wpAny_pyNext_wide_item st hk fin
 done:=λs Q E st hQ=>by
  rw[Ji]at st
  rcases Zpc x with⟨_,e⟩|⟨_,e⟩
  .rw[e]at st;exact wpAny_pyNext_ascii_end hh st (by simp) λh' he'=>hQ h' s.toks he'
  .rw[e]at st;exact wpAny_pyNext_wide_end hh st (by simp) λh' he'=>hQ h' s.toks he'
 self:=λ_ _ _ _ st hQ=>by
  rcases Zpc x with⟨_,e⟩|⟨_,e⟩
  .rw[e]at st;exact wpAny_pyIter_striter_ascii st hQ
  .rw[e]at st;exact wpAny_pyIter_striter_wide st hQ
 live:=λ_ _ st b hb=>hb▸st.elim λo h=>⟨o,h.1⟩
theorem Zmy{a b:Int}{i:Nat}{m:MV}(h:(Jj a b)[i]?=some m):m=.int (a+i)/\i < (b - a).toNat:=by
 unfold Jj at h
 rw[List.getElem?_map]at h
 refine Zp h λk hk e=>?_
 obtain⟨h1,h2⟩:=List.getElem?_eq_some_iff.mp hk
 rw[List.getElem_range]at h2
 subst h2
 exact⟨e.symm,by rw[List.length_range]at h1;exact h1⟩
theorem Zuz(hh:c.A.handled=none){I:Addr}{Zi:Zf}{a b:Int}{n:Nat}(hn:(b - a).toNat=n):Wk c I (·=I) (·=I) (Jj a b) Zi false (λi h=>IsRangeIter h I (a+i) ((n:Int) - i) 1) where
 frame:=λ_ _ _ st hk=>hk I rfl _ st
 item:=λi m s target Q E _ hm st hQ=>by
  obtain⟨rfl,hi⟩:=Zmy hm
  rw[hn]at hi
  refine wpAny_pyNext_range_item st (Int.sub_pos_of_lt (Int.ofNat_lt.mpr hi)) λh' hit' hs'=>?_
  refine Jb (s:={s with heap:=h',toks:=s.toks+1}) hit' rfl (by decide) (hQ _ h' _ (.inl ⟨s.toks,rfl⟩) ?_ hs'.extBut)
  rw[show a+((i+1:Nat):Int)=a+i+1 from(Int.add_assoc a i 1).symm,show((n:Int) - ((i+1:Nat):Int))=n - i - 1 from(Int.sub_sub n i 1).symm]
  exact hit'
 done:=λs Q E st hQ=>by
  rw[show(Jj a b).length=n by rw[<- hn,Jj,List.length_map,List.length_range]]at st
  exact wpAny_pyNext_range_end hh st (Int.le_of_eq (Int.sub_self _)) λh' he'=>hQ h' s.toks he'
 self:=λ_ _ _ _ st hQ=>wpAny_pyIter_rangeiter st hQ
 live:=λ_ _ st b hb=>hb▸⟨_,st⟩
theorem Zxy{l:List MV}:∀{i:Nat} {m:MV} {k:Int},(Xl k l)[i]?=some m->∃u,l[i]?=some u/\m=.tup [.int (k+i),u]:=by
 induction l with
 |nil=>exactλh=>ns h
 |cons a r ih=>exactλ{i m k} h=>match i,h with
  |0,h=>⟨a,rfl,by rw[<- Option.some.inj (show some (MV.tup [.int k,a])=some m from h)];simp⟩
  |i+1,h=>(ih (k:=k+1) (i:=i) h).elim λu q=>⟨u,q.1,by rw[q.2,show k+1+(i:Int)=k+((i+1:Nat):Int)from(Int.add_assoc k 1 i).trans (congrArg (k+·) (Int.add_comm 1 i))]⟩
theorem Zme{l:List MV}:∀{k:Int},(Xl k l).length=l.length:=by
 induction l with
 |nil=>exact rfl
 |cons a r ih=>exact congrArg (·+1) ih
theorem ZBm{e it:Addr}{fp:List Addr}{ms:List MV}{Zi:Zf}{P:Nat->Value->Prop}{St:Nat->Heap->Prop}(D:Draws c.prog c.w c.A.in1 it fp ms.length P St)(hP:∀i v m,P i v->ms[i]?=some m->RepF c.P Zi m v)
  (hei:e≠it)(hef:e ∉ fp)(hif:it∈fp):Wk c e (λb=>b=e\/b∈fp) (λb=>b=e\/b=it) (Xl 0 ms) Zi true (λi h=>(∃old,IsEnum h e it i old)/\St i h) where
 frame:=λi h h' hst hk=>⟨hst.1.elim λold he=>⟨old,hk e (.inl rfl) _ he⟩,D.frame _ _ _ hst.2 λb hb o x=>hk b (.inr hb) o x⟩
 item:=λi m s target Q E ht hm hst hQ=>(Zxy hm).elim λu q=>hst.1.elim λold he=>by
  obtain⟨hu,rfl⟩:=q
  refine wpAny_pyNext_enum_itemD D he hst.2 (List.getElem?_eq_some_iff.mp hu).1 hei hef λx h' tk hPx ho hs' hT hsz hk=>?_
  cases target with
  |Tuple elts k pos=>
   have helt:e < s.heap.objs.size:=Heap.lt_size he
   refine wpAny_letOwnedTupleGo_enum ho λh'' he' hs''=>hQ _ h'' _ (.inr ⟨s.heap.objs.size,[.int i tk,x],0,_,rfl,rfl,Zl _,(hs''.2 _ (Nat.ne_of_gt helt)).trans hT,.cons ⟨tk,by rw[Int.zero_add]⟩ (.one (hP i x u hPx hu)),(show 2<=Zb by decide)⟩)
    ⟨⟨x,by simpa using he'⟩,D.frame _ _ _ hs' λb hb o y=>(hs''.2 b λq=>hef (q▸hb)).trans y⟩ λb o hb y=>(hs''.2 b λq=>hb (.inl q)).trans (hk b o (λq=>hb (.inl q)) (λq=>hb (.inr q)) y)
  |_=>exact nf (ht rfl)
 done:=λs Q E hst hQ=>hst.1.elim λold he=>by
  have hs:=hst.2
  rw[Zme]at hs he
  exact wpAny_pyNext_enum_endD D he hs λh' hx=>hQ h' s.toks λb o hb y=>hx b o (λq=>hb (.inr q)) y
 self:=λi s Q E hst hQ=>hst.1.elim λold he=>wpAny_pyIter_enum he hQ
 live:=λi h st b hb=>hb.elim (λq=>q▸st.1.elim λold he=>⟨_,he⟩) λq=>q▸D.live _ _ st.2
theorem ZBk{l:List MV}:∀{k:List MV} {i:Nat} {m:MV},(Zze l k)[i]?=some m->∃u v,l[i]?=some u/\k[i]?=some v/\m=.tup [u,v]:=by
 induction l with
 |nil=>exactλh=>ns h
 |cons a r ih=>
  intro k i m h
  cases k with
  |nil=>exact ns h
  |cons b q=>exact match i,h with
   |0,h=>⟨a,b,rfl,rfl,(Option.some.inj h).symm⟩
   |i+1,h=>ih (k:=q) (i:=i) h
theorem ZBj{l:List MV}:∀{k:List MV},l[(Zze l k).length]?=none\/k[(Zze l k).length]?=none:=by
 induction l with
 |nil=>exact .inl rfl
 |cons a r ih=>intro k;cases k with
  |nil=>exact .inr rfl
  |cons b q=>exact ih (k:=q)
structure ZUn(z TI TO i1 i2 l1 l2:Addr)(xs ys:List Value)(i:Nat)(h:Heap):Prop where
 a1:IsZip h z TI TO .none
 a2:IsPair h TI (.ref i1) (.ref i2)
 a3:∃a b,IsPair h TO a b
 a4:h.IsListIter i1 l1 i
 a5:h.IsListIter i2 l2 i
 a6:h.IsList l1 xs.toArray
 a7:h.IsList l2 ys.toArray
theorem Zwh{b z TI TO i1 i2:Addr}(hb:¬(b=z\/b=TI\/b=TO\/b=i1\/b=i2)):b≠z/\b≠TO/\b≠i1/\b≠i2:=⟨λh=>hb (.inl h),λh=>hb (.inr (.inr (.inl h))),λh=>hb (.inr (.inr (.inr (.inl h)))),λh=>hb (.inr (.inr (.inr (.inr h))))⟩
theorem ZIb(hh:c.A.handled=none){z TI TO i1 i2 l1 l2:Addr}{ms ns:List MV}{xs ys:List Value}{Zi:Zf}(D:ZipApart z TI TO i1 i2 l1 l2)(r1:RepFs c.P Zi ms xs)(r2:RepFs c.P Zi ns ys):
  Wk c z (λb=>b=z\/b=TI\/b=TO\/b=i1\/b=i2\/b=l1\/b=l2) (λb=>b=z\/b=TI\/b=TO\/b=i1\/b=i2) (Zze ms ns) Zi true (ZUn z TI TO i1 i2 l1 l2 xs ys) where
 frame:=λi h h' S hk=>⟨hk z (.inl rfl) _ S.a1,hk TI (.inr (.inl rfl)) _ S.a2,S.a3.imp λa=>.imp λb=>hk TO (.inr (.inr (.inl rfl))) _,S.a4.at (hk i1 (.inr (.inr (.inr (.inl rfl))))),S.a5.at (hk i2 (.inr (.inr (.inr (.inr (.inl rfl)))))),
  S.a6.at (hk l1 (.inr (.inr (.inr (.inr (.inr (.inl rfl))))))),S.a7.at (hk l2 (.inr (.inr (.inr (.inr (.inr (.inr rfl)))))))⟩
 item:=λi m s target Q E ht hm S hQ=>by
  obtain⟨u,v,hu,hv,rfl⟩:=ZBk hm
  obtain⟨x,hx,rx⟩:=r1.get hu
  obtain⟨y,hy,ry⟩:=r2.get hv
  obtain⟨a,b,a3⟩:=S.a3
  refine wpAny_pyNext_zip_item D S.a1 S.a2 a3 S.a4 S.a5 S.a6 S.a7 (x:=x) (y:=y) (List.getElem?_toArray.trans hx) (List.getElem?_toArray.trans hy) λh' b1 b2 b3 b4 b5 hsz hk=>?_
  cases target with
  |Tuple elts k pos=>
   refine wpAny_letOwnedTupleGo_zip b1 λh'' c1 hs''=>?_
   have e:Heap.ExtBut z h' h'':=hs''.extBut
   exact hQ _ h'' _ (.inr ⟨s.heap.objs.size,[x,y],0,_,rfl,rfl,Zl _,(hs''.2 _ (Nat.ne_of_gt (Heap.lt_size S.a1))).trans b5,.cons rx (.one ry),(show 2<=Zb by decide)⟩)
    ⟨c1,e _ _ D.TIz (hk _ _ D.TIz D.TITO D.TIi1 D.TIi2 S.a2),⟨x,y,e _ _ D.TOz b2⟩,b3.extBut e D.i1z,b4.extBut e D.i2z,S.a6.at λo q=>e _ _ D.l1z (hk _ _ D.l1z D.l1TO D.l1i1 D.l1i2 q),S.a7.at λo q=>e _ _ D.l2z (hk _ _ D.l2z D.l2TO D.l2i1 D.l2i2 q)⟩
    λb o hb q=>e b o (Zwh hb).1 (hk b o (Zwh hb).1 (Zwh hb).2.1 (Zwh hb).2.2.1 (Zwh hb).2.2.2 q)
  |_=>exact nf (ht rfl)
 done:=λs Q E S hQ=>by
  obtain⟨a,b,a3⟩:=S.a3
  refine wpAny_pyNext_zip_end hh D S.a1 S.a2 a3 S.a4 S.a5 S.a6 S.a7 ((ZBj (l:=ms) (k:=ns)).imp (λq=>?_) λq=>?_) λh' hk=>hQ h' s.toks λb o hb=>hk b o (Zwh hb).1 (Zwh hb).2.1 (Zwh hb).2.2.1 (Zwh hb).2.2.2
  .exact List.getElem?_toArray.trans (List.getElem?_eq_none (Nat.le_trans (Nat.le_of_eq r1.length) (List.getElem?_eq_none_iff.mp q)))
  .exact List.getElem?_toArray.trans (List.getElem?_eq_none (Nat.le_trans (Nat.le_of_eq r2.length) (List.getElem?_eq_none_iff.mp q)))
 self:=λi s Q E S hQ=>wpAny_pyIter_zip S.a1 hQ
 live:=λi h S x hx=>hx.elim (λq=>q▸⟨_,S.a1⟩) λhx=>hx.elim (λq=>q▸⟨_,S.a2⟩) λhx=>hx.elim (λq=>q▸S.a3.elim λa h=>h.elim λb h=>⟨_,h⟩) λhx=>hx.elim (λq=>q▸S.a4.imp λo h=>h.1) λq=>q▸S.a5.imp λo h=>h.1
end
end
section
open PySem.Calls
noncomputable def ItA(c:Cx)(ia:Addr)(ms:List MV)(tup:Bool)(i:Nat)(w:Wd)(t:Nat):Prop:=∃fp wr St Zi,Wk c ia fp wr ms Zi tup St/\Zi.Sub w.Z/\St i w.s.heap/\(∀b,wr b->∃x,w.W b=some (t,x))/\(∀b,fp b->(∃x,w.W b=some (t,x))\/∃o,w.Z b=some o/\w.s.heap.get? b=some o)/\ms.length<=Zb
section
variable{c:Cx}{sc:Sc}{E:Prop}{N:Nat}{e:Expr}{x:CE}{n:Nat}{f:Expr->CE}{w w':Wd}{v:Value}{o:OV}{m:MV}{σ:Sg}{Γ:List En}{t t':Nat}{ms:List MV}{ia:Addr}{tup:Bool}{i:Nat}{X:Nat->Prop}
theorem ItA.keep(hz:w.Z.Sub w'.Z)(zok:∀a o,w'.Z a=some o->w'.s.heap.get? a=some o)(k:Zun w w' t t'):ItA c ia ms tup i w t->ItA c ia ms tup i w' t':=λh=>by
 obtain⟨fp,wr,St,Zi,W,h1,h2,h3,h4,h5⟩:=h
 exact⟨fp,wr,St,Zi,W,λa o e=>hz a o (h1 a o e),W.frame _ _ _ h2 λb hb o ho=>(h4 b hb).elim (λq=>q.elim λx q=>(k b x q).2.trans ho) λq=>q.elim λo' q=>zok b o (hz b o (Option.some.inj (q.2.symm.trans ho)▸q.1)),
  λb hb=>(h3 b hb).elim λx q=>⟨x,(k b x q).1⟩,λb hb=>(h4 b hb).imp (λq=>q.elim λx q=>⟨x,(k b x q).1⟩) λq=>q.elim λo q=>⟨o,hz b o q.1,zok b o (hz b o q.1)⟩,h5⟩
noncomputable abbrev itE(c:Cx)(ia:Addr)(ms:List MV)(tup:Bool)(i:Nat):En:=.it (ItA c ia ms tup i)
theorem Zrw{j:Nat}(h:ItA c ia ms tup i w (2*j+1)):ZHg c w j (itE c ia ms tup i):=⟨λ_ _ _ _ hz zok k h=>h.keep hz zok k,h⟩
theorem Inv.pushE(B:Beg c)(I:Inv c w σ Γ)(S:Stp c (Up Γ.length) w w'){en:En}(h:ZHg c w' Γ.length en):Inv c w' σ (en::Γ):=⟨S.iv B I.iv,S.enS (λ_=>Up.even) I.en,h,S.stOk (λ_=>Up.low) I.st⟩
noncomputable def grw(w:Wd)(h:Heap)(tk:Nat)(own:Addr->Bool)(q:Tg):Wd:={w with s:={w.s with heap:=h,toks:=tk},W:=λa=>bif own a then some q else w.W a}
theorem Stp.grow(I:Iv c w){h:Heap}(k:∀a o,w.s.heap.get? a=some o->h.get? a=some o){own:Addr->Bool}(ho:∀b,own b=true->w.s.heap.get? b=none/\∃o,h.get? b=some o)(tk:Nat)(q:Tg):Stp c X w (grw w h tk own q):=by
 have no:∀{b},own b=false->(grw w h tk own q).W b=w.W b:=λ{b} e=>by show(bif own b then _ else _)=_;rw[e];rfl
 refine⟨λa y e _=>.inl (k a y e),λ_ _ e=>e,λa y e=>k a y (I.zok a y e),λa y e=>.inl e,λa e=>?_,λa e=>?_,λt _ b x e=>(I.wz b (Ze e)).2.elim λy q=>⟨?_,(k b y q).trans q.symm⟩,rfl,rfl,rfl,rfl⟩
 .cases z:own a with
  |true=>exact⟨I.zn (ho a z).1,(ho a z).2⟩
  |false=>rw[no z]at e;exact⟨(I.wz a e).1,(I.wz a e).2.elim λy z=>⟨y,k a y z⟩⟩
 .cases z:own a with
  |true=>exact .inr (ho a z).1
  |false=>rw[no z]at e;exact .inl e
 .cases z:own b with
  |true=>exact ns2 (ho b z).1 q
  |false=>exact(no z).trans e
theorem Wk.weak{fp wr:Addr->Prop}{Zi:Zf}{St:Nat->Heap->Prop}(W:Wk c ia fp wr ms Zi false St):Wk c ia fp wr ms Zi tup St:=⟨W.frame,λi m s target Q E _=>W.item i m s target Q E nofun,W.done,W.self,W.live⟩
theorem Inv.iter(B:Beg c)(I:Inv c w σ Γ){h:Heap}(k:∀a o,w.s.heap.get? a=some o->h.get? a=some o){own:Addr->Bool}(ho:∀b,own b=true->w.s.heap.get? b=none/\∃o,h.get? b=some o)(tk:Nat){fp wr:Addr->Prop}{St:Nat->Heap->Prop}(W:Wk c ia fp wr ms w.Z tup St)(hl:ms.length<=Zb)(st:St 0 h)
  (hw:∀b,wr b->own b=true)(hf:∀b,fp b->own b=true\/∃o,w.Z b=some o):Inv c (grw w h tk own (2*Γ.length+1,Zja)) σ (itE c ia ms tup 0::Γ):=by
 have S:Stp c (Up Γ.length) w (grw w h tk own (2*Γ.length+1,Zja)):=.grow I.iv k ho tk _
 have on:∀b,own b=true->∃x,(grw w h tk own (2*Γ.length+1,Zja)).W b=some (2*Γ.length+1,x):=λb e=>⟨_,by show(bif own b then _ else _)=_;rw[e];rfl⟩
 exact I.pushE B S (Zrw ⟨fp,wr,St,w.Z,W,λ_ _ e=>e,st,λb hb=>on b (hw b hb),λb hb=>(hf b hb).imp (on b) λq=>q.elim λo q=>⟨o,q,S.zok b o q⟩,hl⟩)
noncomputable abbrev GI(c:Cx)(E:Prop)(tup:Bool)(tree:Sem Value)(T:Sg->(List MV->Sg->Prop)->Prop):Prop:=∀⦃σ:Sg⦄ ⦃Q:List MV->Sg->Prop⦄ ⦃w:Wd⦄ ⦃Γ:List En⦄,T σ Q->Inv c w σ Γ->∀⦃Qv:Value->Shared->Prop⦄ ⦃Ev:Value->Shared->Prop⦄,
 (∀w' ia ms σ',Q ms σ'->Inv c w' σ' (itE c ia ms tup 0::Γ)->Qv (.ref ia) w'.s)->Er c E Ev->wpAny c.M c.A tree (λx s₁=>wpAny c.M c.A (pyIter x) Qv Ev s₁) Ev w.s
variable{Qv:Value->Shared->Prop}{Ev:Value->Shared->Prop}
theorem Znh(B:Beg c)(hh:c.A.handled=none){k:MV}(hi:items k=some ms)(r:RepF c.P w.Z k v)(I:Inv c w σ Γ)(K:∀w' ia,Inv c w' σ (itE c ia ms tup 0::Γ)->Qv (.ref ia) w'.s):wpAny c.M c.A (pyIter v) Qv Ev w.s:=by
 have go:∀(o:Obj) (fp:Addr->Prop) (St:Nat->Heap->Prop),o.isFreed=false->Wk c w.s.heap.objs.size fp (·=w.s.heap.objs.size) ms w.Z false St->ms.length<=Zb->St 0 (w.s.heap.push o)->(∀b,fp b->b=w.s.heap.objs.size\/∃o,w.Z b=some o)->Qv (.ref w.s.heap.objs.size) {w.s with heap:=w.s.heap.push o}:=λo fp St fr W hl st hf=>
  K _ _ (I.iter B (own:=λb=>b==w.s.heap.objs.size) (λa y e=>Heap.get?_push_of_some _ e) (λb hb=>eq_of_beq hb▸⟨Zl _,o,Heap.get?_push_size _ fr⟩) w.s.toks W.weak hl st (λb hb=>beq_iff_eq.mpr hb) λb hb=>(hf b hb).imp (λq=>beq_iff_eq.mpr q) id)
 have ne:∀{a y},w.Z a=some y->a≠w.s.heap.objs.size:=λz=>Nat.ne_of_lt (Heap.lt_size (I.iv.zok _ _ z))
 cases k with
 |lst l=>
  cases(show some l=some ms from hi)
  exact r.lst_e (G:=λv=>wpAny c.M c.A (pyIter v) Qv Ev w.s) λa vs n z rs hl=>wpAny_pyIter_list (items:=vs.toArray) ⟨_,I.iv.zok _ _ z,rfl,n,rfl⟩ (go _ _ _ rfl (ZBl hh (ne z) rs) hl ⟨⟨_,Heap.get?_push_size _ rfl,rfl,rfl⟩,⟨_,Heap.get?_push_of_some _ (I.iv.zok _ _ z),rfl,n,rfl⟩⟩ λb hb=>hb.imp id λq=>⟨_,q▸z⟩)
 |tup l=>
  cases(show some l=some ms from hi)
  exact r.tup_e (G:=λv=>wpAny c.M c.A (pyIter v) Qv Ev w.s) λa vs n z rs hl=>wpAny_pyIter_tuple (items:=vs.toArray) ⟨_,I.iv.zok _ _ z,rfl,n,rfl⟩ (go _ _ _ rfl (Zuy hh (ne z) rs) hl ⟨⟨_,Heap.get?_push_size _ rfl,rfl,rfl⟩,⟨_,Heap.get?_push_of_some _ (I.iv.zok _ _ z),rfl,n,rfl⟩⟩ λb hb=>hb.imp id λq=>⟨_,q▸z⟩)
 |str x=>
  obtain⟨hl,rfl⟩:=Zak (show(if x.length<=Zb then some (Zde x)else none)=some ms from hi)
  exact r.str_e (G:=λv=>wpAny c.M c.A (pyIter v) Qv Ev w.s) λtk=>wpAny_pyIter_strU (go _ _ _ rfl (ZIc hh (x:=x) (t:=tk)) (by rw[Ji];exact hl) ⟨_,Heap.get?_push_size _ rfl,rfl,rfl⟩ λb hb=>.inl hb)
 |_=>exact ns hi
theorem Zhm(B:Blk c sc)(hh:c.A.handled=none)(he:OkE c E N e x):GI c E tup (eval e c.env) ((mg N (.ite x)).i E):=λσ Q w Γ q I Qv Ev K R=>
 he.v q I (λw v o σ q I=>by
  obtain⟨ms,h,q⟩:=Zo (Ye q)
  have I:=I.frz B.toBeg
  exact Znh (w:=fz w _) B.toBeg hh h I.st.1 I.pop λw' ia I=>K w' ia ms σ q I) R
noncomputable def ZBq(t:String):Bool:=t=="enumerate"||t=="zip"
theorem ZOi{a b:Nat}(h:a < b\/b < a):@Ne Addr a b:=λe=>h.elim (λh=>Nat.ne_of_lt h e) λh=>Nat.ne_of_gt h e
theorem Zet(a b:Int):Builtin.Range.rangeSize a b 1=((b - a).toNat:Int):=by
 rw[rangeSize_one]
 split
 .rename_i q;exact(Int.toNat_of_nonneg (Int.sub_nonneg_of_le (Int.le_of_lt q))).symm
 .rename_i q;exact(congrArg Int.ofNat (Int.toNat_of_nonpos (Int.sub_nonpos_of_le (Int.not_lt.mp q)))).symm
theorem Jw{h:Heap}{a:Nat}(x:h.objs.size<=a):h.get? a=none:=by
 cases q:h.get? a with
 |none=>rfl
 |some o'=>exact absurd (Heap.lt_size q) (Nat.not_lt.mpr x)
theorem Zkp(B:Beg c)(hh:c.A.handled=none)(I:Inv c w σ Γ)(K:∀w' ia,Inv c w' σ (itE c ia ms tup 0::Γ)->Qv (.ref ia) w'.s){a b:Int}(hm:Jj a b=ms)(h1:0<=a)(h1':a<=Zb)(h2:-Zb<=b)(h3:b<=Zb)(u v z:Tok)(tk:Nat):
  wpAny c.M c.A (pyIter (.ref w.s.heap.objs.size)) Qv Ev {w.s with heap:=w.s.heap.push {cls:=.type "range",data:=.fields #[.int a u,.int b v,.int 1 z]},toks:=tk}:=by
 subst hm
 have k:∀b' o',w.s.heap.get? b'=some o'->(w.s.heap.push {cls:=.type "range",data:=.fields #[.int a u,.int b v,.int 1 z]}).get? b'=some o':=λb' o' e=>Heap.get?_push_of_some _ e
 have new:=Heap.get?_push_size (w.s.heap.push {cls:=.type "range",data:=.fields #[.int a u,.int b v,.int 1 z]}) (o:={cls:=.type "range_iterator",data:=.fields #[rawInt a,rawInt (Builtin.Range.rangeSize a b 1),rawInt 1]}) rfl
 refine wpAny_pyIter_range (IsRange.new w.s.heap a b 1 u v z) (small_one (Int.le_trans (by decide) h1) (Int.lt_of_le_of_lt h1' (by decide)) (Int.le_trans (by decide) h2) (Int.lt_of_le_of_lt h3 (by decide))) ?_
 refine K _ _ (I.iter B (own:=λb'=>b'==(w.s.heap.push {cls:=.type "range",data:=.fields #[.int a u,.int b v,.int 1 z]}).objs.size) (λb' o' e=>Heap.get?_push_of_some _ (k b' o' e)) (λb' hb=>eq_of_beq hb▸⟨Jw (by rw[Heap.size_push];exact Nat.le_succ _),_,new⟩) tk (Zuz hh rfl).weak (by unfold Jj;rw[List.length_map,List.length_range];exact Int.toNat_le.mpr (Int.le_trans (Int.sub_le_self b h1) h3)) ?_ (λb hb=>beq_iff_eq.mpr hb) λb hb=>.inl (beq_iff_eq.mpr hb))
 show IsRangeIter _ _ (a+((0:Nat):Int)) (((b - a).toNat:Int) - ((0:Nat):Int)) 1
 rw[Zet]at new⊢
 simpa using new
theorem Zjs(B:Beg c)(I:Inv c w σ Γ){l:List MV}(hl:l.length<=Zb)(K:∀w' ia,Inv c w' σ (itE c ia (Xl 0 l) true 0::Γ)->Qv (.ref ia) w'.s){fp:List Addr}{P:Nat->Value->Prop}{St:Nat->Heap->Prop}(D:Draws c.prog c.w c.A.in1 w.s.heap.objs.size fp l.length P St)(hP:∀i v m,P i v->l[i]?=some m->RepF c.P w.Z m v)
  (hf:∀b∈fp,b=w.s.heap.objs.size\/∃o,w.Z b=some o)(hif:w.s.heap.objs.size∈fp){h':Heap}{old:Value}(he:IsEnum h' (w.s.heap.objs.size+1) w.s.heap.objs.size 0 old)(st:St 0 h')(hk:∀b o,w.s.heap.get? b=some o->h'.get? b=some o):wpAny c.M c.A (pyIter (.ref (w.s.heap.objs.size+1))) Qv Ev {w.s with heap:=h'}:=by
 have nf:w.s.heap.objs.size+1 ∉ fp:=λq=>(hf _ q).elim (λe=>ZOi (.inr (Nat.lt_succ_self _)) e) λe=>e.elim λo e=>ns2 (Jw (Nat.le_succ _)) (I.iv.zok _ _ e)
 have W:=ZBm (c:=c) (e:=w.s.heap.objs.size+1) (Zi:=w.Z) D hP (ZOi (.inr (Nat.lt_succ_self _))) nf hif
 refine wpAny_pyIter_enum he (K _ _ (I.iter B (own:=λb=>b==w.s.heap.objs.size+1||b==w.s.heap.objs.size) hk (λb hb=>?_) w.s.toks W (by rw[Zme];exact hl) ⟨⟨_,he⟩,st⟩ (λb hb=>?_) λb hb=>?_))
 .rcases Bool.or_eq_true_iff.mp hb with hb|hb
  .exact eq_of_beq hb▸⟨Jw (Nat.le_succ _),_,he⟩
  .exact eq_of_beq hb▸⟨Zl _,D.live 0 h' st⟩
 .exact Bool.or_eq_true_iff.mpr (hb.imp (λq=>beq_iff_eq.mpr q) λq=>beq_iff_eq.mpr q)
 .exact hb.elim (λq=>.inl (Bool.or_eq_true_iff.mpr (.inl (beq_iff_eq.mpr q)))) λq=>(hf b q).imp (λq=>Bool.or_eq_true_iff.mpr (.inr (beq_iff_eq.mpr q))) id
theorem Zth(B:Beg c)(hh:c.A.handled=none)(I:Inv c w σ Γ){l:List MV}(K:∀w' ia,Inv c w' σ (itE c ia (Xl 0 l) true 0::Γ)->Qv (.ref ia) w'.s)(h:Zrv m=some l)(r:RepF c.P w.Z m v):wpAny c.M c.A (call (.type "enumerate") [v]) (λx s₁=>wpAny c.M c.A (pyIter x) Qv Ev s₁) Ev w.s:=by
 cases m with
 |lst l'=>
  cases(show some l'=some l from h)
  refine r.lst_e (G:=λv=>wpAny c.M c.A (call (.type "enumerate") [v]) (λx s₁=>wpAny c.M c.A (pyIter x) Qv Ev s₁) Ev w.s) λa vs n z rs hl=>call_enumerate_list (items:=vs.toArray) ⟨_,I.iv.zok _ _ z,rfl,n,rfl⟩ λh' he hit hsz hk=>?_
  have D:=Draws.list (prog:=c.prog) (w:=c.w) (A:=c.A.in1) hh w.s.heap.objs.size a (Nat.ne_of_lt (Heap.lt_size (I.iv.zok _ _ z))) vs.toArray
  rw[show vs.toArray.size=l.length by rw[List.size_toArray,rs.length]]at D
  exact Zjs B I hl K D (λi v m h1 h2=>(rs.get h2).elim λu q=>by
   rw[show vs.toArray[i]?=vs[i]? by simp,q.1]at h1
   exact Option.some.inj h1▸q.2) (λb hb=>(List.mem_cons.mp hb).imp id λq=>⟨_,(List.mem_singleton.mp q).symm▸z⟩) List.mem_cons_self he ⟨hit,⟨_,hk _ _ (I.iv.zok _ _ z),rfl,n,rfl⟩⟩ hk
 |str x=>
  obtain⟨hl,rfl⟩:=Zak (show(if x.length<=Zb then some (Zde x)else none)=some l from h)
  refine r.str_e (G:=λv=>wpAny c.M c.A (call (.type "enumerate") [v]) (λx s₁=>wpAny c.M c.A (pyIter x) Qv Ev s₁) Ev w.s) λtk=>call_enumerate_str λh' he hit hsz hk=>?_
  have hP:∀i v m,(∃k u,x.cps[i]?=some k/\v=Value.str ⟨#[k]⟩ u)->(Zde x)[i]?=some m->RepF c.P w.Z m v:=λi v m ⟨k,u,e,hv⟩ h2=>(Zgp h2).elim λk' q=>by
   rw[hv,Option.some.inj (e.symm.trans q.1),q.2]
   exact⟨u,rfl⟩
  have el:x.cps.size=(Zde x).length:=Ji.symm
  rcases Zpc x with⟨ha,e⟩|⟨ha,e⟩
  .rw[e]at hit
   have D:=Draws.strAscii (prog:=c.prog) (w:=c.w) (A:=c.A.in1) hh w.s.heap.objs.size x tk
   rw[el]at D
   exact Zjs B I (by rw[Ji];exact hl) K D hP (λb hb=>.inl (List.mem_singleton.mp hb)) List.mem_cons_self he hit hk
  .rw[e]at hit
   have D:=Draws.strWide (prog:=c.prog) (w:=c.w) (A:=c.A.in1) hh w.s.heap.objs.size x tk
   rw[el]at D
   exact Zjs B I (by rw[Ji];exact hl) K D hP (λb hb=>.inl (List.mem_singleton.mp hb)) List.mem_cons_self he hit hk
 |_=>exact ns h
theorem ZYq{n b:Nat}(h:n<=b/\b < n+5):b=n+4\/b=n+2\/b=n+3\/b=n\/b=n+1:=by
 obtain⟨i,rfl⟩:=Nat.exists_eq_add_of_le h.1
 have k:∀i,i < 5->i=4\/i=2\/i=3\/i=0\/i=1:=by decide
 exact(k i (Nat.lt_of_add_lt_add_left h.2)).imp (congrArg (n+·)) (.imp (congrArg (n+·)) (.imp (congrArg (n+·)) (.imp (congrArg (n+·)) (congrArg (n+·)))))
theorem lt5{n k:Nat}(h:k < 5):n<=n+k/\n+k < n+5:=⟨Nat.le_add_right ..,Nat.add_lt_add_left h n⟩
theorem in5{n b:Nat}(h:b=n+4\/b=n+2\/b=n+3\/b=n\/b=n+1):n<=b/\b < n+5:=
 h.elim (λe=>e▸lt5 (by decide)) λh=>h.elim (λe=>e▸lt5 (by decide)) λh=>h.elim (λe=>e▸lt5 (by decide)) λh=>h.elim (λe=>e▸lt5 (k:=0) (by decide)) λe=>e▸lt5 (by decide)
theorem Zux(B:Beg c)(hh:c.A.handled=none)(I:Inv c w σ Γ){l k:List MV}{u:Value}(K:∀w' ia,Inv c w' σ (itE c ia (Zze l k) true 0::Γ)->Qv (.ref ia) w'.s)(r1:RepF c.P w.Z (.lst l) v)(r2:RepF c.P w.Z (.lst k) u):wpAny c.M c.A (call (.type "zip") [v,u]) (λx s₁=>wpAny c.M c.A (pyIter x) Qv Ev s₁) Ev w.s:=
 r1.lst_e (G:=λv=>wpAny c.M c.A (call (.type "zip") [v,u]) (λx s₁=>wpAny c.M c.A (pyIter x) Qv Ev s₁) Ev w.s) λa1 vs n1 z1 rs1 hl1=>r2.lst_e (G:=λu=>wpAny c.M c.A (call (.type "zip") [.ref a1,u]) (λx s₁=>wpAny c.M c.A (pyIter x) Qv Ev s₁) Ev w.s) λa2 us n2 z2 rs2 _=>by
  have l1:@LT.lt Nat instLTNat a1 w.s.heap.objs.size:=Heap.lt_size (I.iv.zok _ _ z1)
  have l2:@LT.lt Nat instLTNat a2 w.s.heap.objs.size:=Heap.lt_size (I.iv.zok _ _ z2)
  refine call_zip_2 (xs:=vs.toArray) (ys:=us.toArray) ⟨_,I.iv.zok _ _ z1,rfl,n1,rfl⟩ ⟨_,I.iv.zok _ _ z2,rfl,n2,rfl⟩ λh' hz hTI hTO h1 h2 hsz hk=>wpAny_pyIter_zip hz ?_
  have D:ZipApart (w.s.heap.objs.size+4) (w.s.heap.objs.size+2) (w.s.heap.objs.size+3) w.s.heap.objs.size (w.s.heap.objs.size+1) a1 a2:=by
   have a1:=λk=>Nat.ne_of_lt (Nat.lt_of_lt_of_le l1 (Nat.le_add_right _ k))
   have a2:=λk=>Nat.ne_of_lt (Nat.lt_of_lt_of_le l2 (Nat.le_add_right _ k))
   constructor <;> first|exactλe=>absurd (Nat.add_left_cancel e) (by decide)|exact a1 _|exact(a1 _).symm|exact a2 _|exact(a2 _).symm|exact a1 0|exact(a1 0).symm|exact a2 0|exact(a2 0).symm|exact Nat.ne_of_lt (Nat.lt_add_of_pos_right (by decide))|exact(Nat.ne_of_lt (Nat.lt_add_of_pos_right (by decide))).symm
  have W:=ZIb (c:=c) hh D rs1 rs2
  have st:ZUn _ _ _ _ _ a1 a2 vs us 0 h':=⟨hz,hTI,⟨_,_,hTO⟩,h1,h2,⟨_,hk _ _ (I.iv.zok _ _ z1),rfl,n1,rfl⟩,⟨_,hk _ _ (I.iv.zok _ _ z2),rfl,n2,rfl⟩⟩
  refine K _ _ (I.iter B (own:=λb=>decide (w.s.heap.objs.size<=b/\b < w.s.heap.objs.size+5)) hk (λb hb=>⟨Jw (of_decide_eq_true hb).1,W.live 0 h' st b (ZYq (of_decide_eq_true hb))⟩) w.s.toks W (by unfold Zze;rw[List.length_zipWith];exact Nat.le_trans (Nat.min_le_left _ _) hl1) st (λb hb=>decide_eq_true (in5 hb)) λb hb=>?_)
  exact hb.elim (λh=>.inl (decide_eq_true (in5 (.inl h)))) λhb=>hb.elim (λh=>.inl (decide_eq_true (in5 (.inr (.inl h))))) λhb=>hb.elim (λh=>.inl (decide_eq_true (in5 (.inr (.inr (.inl h)))))) λhb=>hb.elim (λh=>.inl (decide_eq_true (in5 (.inr (.inr (.inr (.inl h))))))) λhb=>hb.elim (λh=>.inl (decide_eq_true (in5 (.inr (.inr (.inr (.inr h))))))) λhb=>hb.elim (λh=>.inr ⟨_,h▸z1⟩) λh=>.inr ⟨_,h▸z2⟩
theorem Zru(B:Beg c)(hh:c.A.handled=none)(I:Inv c w σ Γ){t:String}{us:List MV}{vs:List Value}(hi:Xj t us=some ms)(r:RepFs c.P w.Z us vs)(K:∀w' ia,Inv c w' σ (itE c ia ms (ZBq t) 0::Γ)->Qv (.ref ia) w'.s):wpAny c.M c.A (call (.type t) vs) (λx s₁=>wpAny c.M c.A (pyIter x) Qv Ev s₁) Ev w.s:=by
 unfold Xj at hi
 by_cases h1:t="range"
 .subst h1;rw[if_pos rfl]at hi
  cases us with
  |nil=>exact ns hi
  |cons a us=>
   refine Zh hi λa' e hi=>r.cons_e (G:=λvs=>wpAny c.M c.A (call (.type "range") vs) (λx s₁=>wpAny c.M c.A (pyIter x) Qv Ev s₁) Ev w.s) λv ws ra rr=>?_
   have ra:RepF c.P w.Z (.int a') v:=Zcw e▸ra
   refine ra.int_e (G:=λv=>wpAny c.M c.A (call (.type "range") (v::ws)) (λx s₁=>wpAny c.M c.A (pyIter x) Qv Ev s₁) Ev w.s) λtk=>?_
   cases us with
   |nil=>
    obtain⟨q,hm⟩:=Zak hi
    exact rr.nil_e (G:=λws=>wpAny c.M c.A (call (.type "range") (.int a' tk::ws)) (λx s₁=>wpAny c.M c.A (pyIter x) Qv Ev s₁) Ev w.s) (call_range_1 (Zkp B hh I K hm (by decide) (by decide) q.1 q.2 _ _ _ _))
   |cons b us=>
    obtain⟨b,h2,h3⟩:=Znd (show Zhc (b::us) (λb=>(Jr b).bind (Zzt a'))=some ms from hi)
    rw[h2]at rr
    refine rr.cons_e (G:=λws=>wpAny c.M c.A (call (.type "range") (.int a' tk::ws)) (λx s₁=>wpAny c.M c.A (pyIter x) Qv Ev s₁) Ev w.s) λv2 ws2 rb r0=>r0.nil_e (G:=λws2=>wpAny c.M c.A (call (.type "range") (.int a' tk::v2::ws2)) (λx s₁=>wpAny c.M c.A (pyIter x) Qv Ev s₁) Ev w.s) ?_
    refine Zfo (G:=λv2=>wpAny c.M c.A (call (.type "range") [.int a' tk,v2]) (λx s₁=>wpAny c.M c.A (pyIter x) Qv Ev s₁) Ev w.s) h3 rb λb' tk' h=>?_
    obtain⟨q,hm⟩:=Zak h
    exact call_range_2 (Zkp B hh I K hm q.1 q.2.1 q.2.2.1 q.2.2.2 _ _ _ _)
 rw[if_neg h1]at hi
 by_cases h2:t="enumerate"
 .subst h2;rw[if_pos rfl]at hi
  obtain⟨a,rfl,h⟩:=Znd hi
  exact Zp h λl h e=>r.cons_e (G:=λvs=>wpAny c.M c.A (call (.type "enumerate") vs) (λx s₁=>wpAny c.M c.A (pyIter x) Qv Ev s₁) Ev w.s) λv ws ra rr=>rr.nil_e (G:=λws=>wpAny c.M c.A (call (.type "enumerate") (v::ws)) (λx s₁=>wpAny c.M c.A (pyIter x) Qv Ev s₁) Ev w.s) (Zth B hh I (by subst e;exact K) h ra)
 rw[if_neg h2]at hi
 by_cases h3:t="zip"
 .subst h3;rw[if_pos rfl]at hi
  cases us with
  |nil=>exact ns hi
  |cons a us=>
   obtain⟨b,rfl,h⟩:=Znd (show Zhc us _=some ms from hi)
   refine Zh h λl e1 h=>Zp h λk e2 h=>r.cons_e (G:=λvs=>wpAny c.M c.A (call (.type "zip") vs) (λx s₁=>wpAny c.M c.A (pyIter x) Qv Ev s₁) Ev w.s) λv ws ra rr=>rr.cons_e (G:=λws=>wpAny c.M c.A (call (.type "zip") (v::ws)) (λx s₁=>wpAny c.M c.A (pyIter x) Qv Ev s₁) Ev w.s) λv2 ws2 rb r0=>r0.nil_e (G:=λws2=>wpAny c.M c.A (call (.type "zip") (v::v2::ws2)) (λx s₁=>wpAny c.M c.A (pyIter x) Qv Ev s₁) Ev w.s) ?_
   subst h
   exact Zux B hh I K (Zgb e1▸ra) (Zgb e2▸rb)
 rw[if_neg h3]at hi
 exact ns hi
theorem ZLt(B:Blk c sc)(hh:c.A.handled=none)(hf:∀e,OkE c E N e (f e)){xn:Str}{xp pos:Pos}{es:List Expr}{t:String}(hs:es.any Zd=false)(hx:sc.lookup xn=some .globalImplicit)(hg:TT.glob xn=some (.con (.type t))):
  GI c E (ZBq t) (eval (.Call (.Name xn xp) es [] pos) c.env) ((mg N (.itc t (Xs f es))).i E):=λσ Q w Γ q I Qv Ev K Er=>by
 obtain⟨v,r,go⟩:=Zt (pos:=xp) B I.iv hx hg
 rw[show v=.type t from r.1]at go
 refine Call_Name rfl (go (tk:=w.s.toks) (Zx (.inl ⟨_,rfl⟩) hs (Ja (Q:=λvs σ=>Znq vs λms=>onS (λms=>Q ms σ) (Xj t ms)) hf hs q I (λw vs os σ hl _ q I=>?_) Er)))
 obtain⟨w',e,I,r⟩:=I.frzs B.toBeg hl
 obtain⟨ms,h,q⟩:=Zo (Zee q)
 rw[<- e]
 exact Zru B.toBeg hh I h r λw ia I=>K w ia ms σ q I
end
end
section
open PySem.Calls
noncomputable def tgt(sc:Sc)(xs:List Str)(pn:List Nat)(fx:Bool)(x:Str):Option Nat:=if(sc.lookup x==some .local||(!fx&&sc.lookup x==some .cell))=true then(Zur x xs).bind λi=>if pn.contains i=true then none else some i else none
structure Tgt(sc:Sc)(c:Cx)(x:Str)(j:Nat):Prop where
 k:sc.lookup x=some .local\/(c.fix=false/\sc.lookup x=some .cell)
 i:nth c.xs j=some x
 p:c.pn.contains j=false
theorem Zov{sc:Sc}{c:Cx}{x:Str}{i:Nat}(h:tgt sc c.xs c.pn c.fix x=some i):Tgt sc c x i:=by
 unfold tgt at h
 by_cases q:(sc.lookup x==some .local||(!c.fix&&sc.lookup x==some .cell))=true
 .rw[if_pos q]at h
  refine Zh h λj e h=>?_
  obtain⟨q2,h⟩:=Zdh h
  cases h
  exact⟨(Bool.or_eq_true_iff.mp q).imp eq_of_beq λz=>((Bool.and_eq_true_iff.mp z).imp (λz=>Bool.not_eq_true' _▸z) eq_of_beq),Zhl e,Bool.eq_false_iff.mpr q2⟩
 .rw[if_neg q]at h;exact ns h
theorem Zjb{α:Type}{x:α}{l:List α}{i:Nat}(h:nth l i=some x):x∈l:=List.mem_of_getElem? (Zca h)
theorem ZDp{α:Type}{x:α}{l:List α}(nd:l.Nodup){i j:Nat}(h:nth l i=some x)(k:nth l j=some x):i=j:=(List.getElem?_inj (List.getElem?_eq_some_iff.mp (Zca h)).1 nd).mp ((Zca h).trans (Zca k).symm)
theorem Zyp{l:List (Str×Addr)}(nd:(l.map (·.2)).Nodup){x y:Str}{a:Addr}(hx:l.lookup x=some a)(hy:l.lookup y=some a):x=y:=by
 induction l with
 |nil=>exact ns hx
 |cons p r ih=>
  obtain⟨hn,nd'⟩:=List.nodup_cons.mp nd
  have hm:∀{w:Str},r.lookup w=some a->a∈r.map (·.2):=λh=>List.mem_map.mpr ⟨_,Zj h,rfl⟩
  rcases Xq hx with⟨h1,h2⟩|⟨n1,hx⟩ <;> rcases Xq hy with⟨h3,h4⟩|⟨n2,hy⟩
  .exact h1.symm.trans h3
  .exact absurd (by show p.2∈_;rw[h2];exact hm hy) hn
  .exact absurd (by show p.2∈_;rw[h4];exact hm hx) hn
  .exact ih nd' hx hy
noncomputable abbrev NoAl(Γ:List En):Prop:=∀e∈Γ,∀i v,e≠.al i v
section
variable{c:Cx}{sc:Sc}{w w':Wd}{v:Value}{o:OV}{m:MV}{σ σ':Sg}{Γ:List En}{i:Nat}{x:Str}
theorem NoAl.tl{e:En}(h:NoAl (e::Γ)):NoAl Γ:=λe he=>h e (List.mem_cons_of_mem _ he)
theorem NoAl.cons_o(h:NoAl Γ):NoAl (.o o v::Γ):=λe he=>(List.mem_cons.mp he).elim (λq i u z=>by rw[q]at z;cases z) (h e)
theorem NoAl.cons_it{A:Wd->Nat->Prop}(h:NoAl Γ):NoAl (.it A::Γ):=λe he=>(List.mem_cons.mp he).elim (λq i u z=>by rw[q]at z;cases z) (h e)
theorem StOk.keep(hz:w.Z.Sub w'.Z)(zok:∀a o,w'.Z a=some o->w'.s.heap.get? a=some o)(k:∀t,Zun w w' t t):∀{Γ:List En},(∀i v,En.al i v∈Γ->c.vl w i=some v->c.vl w' i=some v)->StOk c w Γ->StOk c w' Γ:=λ{Γ}=>by
 induction Γ with
 |nil=>exactλ_ h=>h
 |cons e r ih=>
  refineλna h=>⟨?_,ih (λi v q=>na i v (List.mem_cons_of_mem _ q)) h.2⟩
  cases e with
  |o o v=>exact RepO.keep hz (k _) h.1
  |al i v=>exact na i v List.mem_cons_self h.1
  |it A=>exact⟨h.1.1,h.1.1 _ _ _ _ hz zok (k _) h.1.2⟩
theorem NoAl.al{P:Nat->Value->Prop}(na:NoAl Γ):∀i v,En.al i v∈Γ->P i v:=λi v q=>absurd rfl (na _ q i v)
noncomputable def Zpf(w:Wd)(h:Heap)(tk:Nat)(m cm:Str->Option Value):Wd:={w with s:={w.s with heap:=h,toks:=tk},m:=m,cm:=cm}
theorem Inv.slot(B:Blk c sc)(I:Inv c w σ Γ)(na:NoAl Γ)(hi:nth c.xs i=some x)(hp:c.pn.contains i=false){d:Addr}(hd:d∈c.X){h:Heap}(hs:Heap.SameBut d w.s.heap h){o1:Obj}(ho:h.get? d=some o1)(hn:∀vs,o1.data≠.fields vs)(tk:Nat){m cm:Str->Option Value}
  (hns:h.Ns c.env.locals m)(hcl:∀y a,c.env.cells.lookup y=some a->h.IsCell a (cm y))(hv:c.val (Zpf w h tk m cm) x=some v)(hx:∀y,y≠x->c.val (Zpf w h tk m cm) y=c.val w y)
  (r:RepO c.P w (2*i) o v):Inv c (Zpf w h tk m cm) (Mine.put σ i (some o)) Γ:=by
 have dX:=Cx.X_D hd
 have fr:=I.iv.free B.toBeg (.inl dX)
 have kp:∀{a y},a≠d->w.s.heap.get? a=some y->h.get? a=some y:=λ{a y} n e=>hs.extBut a y n e
 have nz:∀{a y},w.Z a=some y->a≠d:=λe q=>ns2 fr.1 (q▸e)
 have nw:∀{a},w.W a≠none->a≠d:=λe q=>e (q▸fr.2)
 have zok:∀a o,w.Z a=some o->h.get? a=some o:=λa o e=>kp (nz e) (I.iv.zok a o e)
 have K:∀t,Zun w (Zpf w h tk m cm) t t:=λt b y e=>⟨e,(I.iv.wz b (Ze e)).2.elim λo q=>(kp (nw (Ze e)) q).trans q.symm⟩
 have vl:∀j,j≠i->c.vl (Zpf w h tk m cm) j=c.vl w j:=λj hj=>by
  show(nth c.xs j).bind _=(nth c.xs j).bind _
  cases q:nth c.xs j with
  |none=>rfl
  |some y=>exact hx y λe=>hj (ZDp B.nx (e▸q) hi)
 have vi:c.vl (Zpf w h tk m cm) i=some v:=by show(nth c.xs i).bind _=_;rw[hi];exact hv
 refine⟨⟨λa o e q dn=>?_,I.iv.zsub,zok,I.iv.znew,λa e=>⟨(I.iv.wz a e).1,(I.iv.wz a e).2.elim λo q=>⟨o,kp (nw e) q⟩⟩,I.iv.wnew,hns,hcl,λa ha=>?_,λe he=>⟨(I.iv.frs e he).1,(I.iv.frs e he).2.elim λL q=>q.elim λo q=>?_⟩,I.iv.os,I.iv.gens,λj u e=>?_⟩,λj p e=>?_,StOk.keep (w:=w) (w':=Zpf w h tk m cm) (λ_ _ e=>e) zok K na.al I.st⟩
 .have ne:a≠d:=λz=>dn (z▸hd)
  exact(I.iv.kept a o e q dn).imp (kp ne) λz=>⟨z.1,z.2.elim λsl z=>⟨sl,kp ne z⟩⟩
 .by_cases q:a=d
  .exact⟨o1,q▸ho⟩
  .exact(I.iv.dd a ha).elim λo z=>⟨o,kp q z⟩
 .by_cases z:L=d
  .exact⟨L,o1,q.1,z▸ho,hn⟩
  .exact⟨L,o,q.1,kp z q.2.1,q.2.2⟩
 .rw[vl j λq=>ns2 (B.pp j (q▸hp)) e];exact I.iv.pin j u e
 .refine(Ut e).elim (λq=>?_) λq=>⟨v,q.1.symm▸vi,?_⟩
  .rw[vl j q.1]
   exact(I.en j p q.2).elim λu z=>⟨u,z.1,RepO.keep (w:=w) (w':=Zpf w h tk m cm) (λ_ _ e=>e) (K _) z.2⟩
  .rw[q.1,Option.some.inj q.2];exact RepO.keep (w:=w) (w':=Zpf w h tk m cm) (λ_ _ e=>e) (K _) r
theorem ZKp(I:Iv c w){y:Str}{a:Addr}(h:c.env.cells.lookup y=some a):a≠c.env.locals:=λq=>by
 obtain⟨o,es,ep,ho,hd,_⟩:=I.ns
 obtain⟨o',ho',hd'⟩:=I.cl _ _ h
 rw[q,ho]at ho';cases ho';rw[hd]at hd';cases hd'
theorem Inv.hold(B:Blk c sc)(I:Inv c w σ (.o o v::Γ))(i:Nat):Inv c (rtg w (2*Γ.length+1) (2*i)) σ Γ:=I.pop.next B.toBeg (.mv I.iv ⟨_,Nat.le_refl _,rfl⟩)
theorem Zgo(B:Blk c sc)(I:Inv c w σ (.o o v::Γ))(na:NoAl Γ)(hi:nth c.xs i=some x)(hp:c.pn.contains i=false)(hk:sc.lookup x=some .local){Q:Unit->Shared->Prop}{Ev:Value->Shared->Prop}
  (H:∀h' tk m',Heap.SameBut c.env.locals w.s.heap h'->Inv c (Zpf (rtg w (2*Γ.length+1) (2*i)) h' tk m' w.cm) (put σ i (some o)) Γ->Q () {w.s with heap:=h',toks:=tk}):wpAny c.M c.A (storeName c.env x v) Q Ev w.s:=by
 have hl:=(B.kind x).trans hk
 refine wpAny_storeName_local hl I.iv.ns (λh' hn hs=>?_) (by rw[B.kf];rfl)
 obtain⟨o1,es,ep,ho1,hd1,_⟩:=id hn
 refine H _ _ _ hs ((I.hold B i).slot (cm:=w.cm) B na hi hp List.mem_cons_self hs ho1 (λvs=>by rw[hd1];nofun) _ hn (λy a hy=>Yi (I.iv.cl y a hy) λo ho=>⟨o,hs.extBut a o (ZKp I.iv hy) ho,rfl⟩) ?_ (λy hy=>?_) (RepO.mv I.st.1))
 .show Zom _ _ _ (c.env.kindOf x)=_
  rw[hl];exact if_pos rfl
 .show Zom _ _ _ (c.env.kindOf y)=Zom _ _ _ (c.env.kindOf y)
  cases c.env.kindOf y with
  |none=>rfl
  |some k=>cases k <;> first|rfl|exact if_neg hy
theorem Zas(B:Blk c sc)(I:Inv c w σ (.o o v::Γ))(na:NoAl Γ)(T:Tgt sc c x i){Q:Unit->Shared->Prop}{Ev:Value->Shared->Prop}(H:∀w',Inv c w' (put σ i (some o)) Γ->Q () w'.s):wpAny c.M c.A (storeName c.env x v) Q Ev w.s:=by
 rcases T.k with hk|⟨hf,hk⟩
 .exact Zgo B I na T.i T.p hk λh' tk m' _ I=>H _ I
 .have hl:=(B.kind x).trans hk
  obtain⟨a,ha⟩:=Option.isSome_iff_exists.mp (B.kcell x hk)
  have aX:a∈c.X:=List.mem_cons_of_mem _ (by rw[hf];exact List.mem_map.mpr ⟨_,Zj ha,rfl⟩)
  refine wpAny_storeName_cell B.kf hl ha (I.iv.cl x a ha) λh' hc hs=>?_
  obtain⟨o1,ho1,hd1⟩:=id hc
  refine H _ ((I.hold B i).slot (m:=w.m) (cm:=λy=>if y=x then some v else w.cm y) B na T.i T.p aX hs ho1 (λvs=>by rw[hd1];nofun) w.s.toks (Xp I.iv.ns λo ho=>⟨o,hs.extBut _ o (Ne.symm (ZKp I.iv ha)) ho,rfl⟩) (λy b hy=>?_) ?_ (λy hy=>?_) (RepO.mv I.st.1))
  .by_cases q:y=x
   .subst q
    cases ha.symm.trans hy
    rw[if_pos rfl];exact hc
   .rw[if_neg q]
    exact Yi (I.iv.cl y b hy) λo ho=>⟨o,hs.extBut b o (λe=>q (by subst e;exact Zyp (B.cd hf) hy ha)) ho,rfl⟩
  .show Zom _ _ (if x=x then some v else w.cm x) (c.env.kindOf x)=_
   rw[hl,ha,if_pos rfl];rfl
  .show Zom _ _ (if y=x then some v else w.cm y) (c.env.kindOf y)=Zom _ _ _ (c.env.kindOf y)
   rw[if_neg hy];rfl
end
end
section
open PySem.Calls
noncomputable def nmE:Expr->Option Str
 | .Name x _=>some x
 |_=>none
theorem Zhe{e:Expr}{x:Str}(h:nmE e=some x):∃p,e=.Name x p:=by
 cases e with
 |Name y p=>exact⟨p,by rw[Option.some.inj h]⟩
 |_=>exact ns h
section
variable(sc:Sc)(xs:List Str)(pn:List Nat)(fx:Bool)
noncomputable def tgs:List Expr->Option (List Nat)
 | []=>some []
 |e::r=>(nmE e).bind λx=>(tgt sc xs pn fx x).bind λi=>(tgs r).map (i::·)
noncomputable def Zzg:Expr->Option (List Expr)
 | .Tuple ts _ _=>some ts
 |_=>none
noncomputable def bdC(t:Expr):Option Bd:=match Zzg t with
 |some ts=>(tgs sc xs pn fx ts).map .t
 |none=>(nmE t).bind λx=>(tgt sc xs pn fx x).map .n
end
theorem Zoq{e:Expr}{ts:List Expr}(h:Zzg e=some ts):∃k p,e=.Tuple ts k p:=by
 cases e with
 |Tuple us k p=>exact⟨k,p,by rw[Option.some.inj h]⟩
 |_=>exact ns h
theorem ZBr{e:Expr}:(Zzg e).isSome=Xv e:=by cases e <;> rfl
noncomputable def entq(ms:List MV)(vs:List Value):List En:=List.zipWith (λm v=>En.o (.f m) v) ms vs
noncomputable def Top(c:Cx):Prop:=∃outer L,c.l=c.env::outer/\c.env.frame=some L
section
variable{c:Cx}{sc:Sc}{E:Prop}{w w':Wd}{v:Value}{o:OV}{m:MV}{σ σ':Sg}{Γ:List En}{i:Nat}{x:Str}{ia:Addr}{ms:List MV}{tup:Bool}{vs:List Value}{Q:Unit->Shared->Prop}{Ev:Value->Shared->Prop}
theorem Inv.puts(I:Inv c w σ Γ):∀{ms:List MV} {vs:List Value},RepFs c.P w.Z ms vs->Inv c w σ (entq ms vs++Γ):=λ{ms}=>by
 induction ms with
 |nil=>exactλ{vs} _=>I
 |cons m r ih=>exactλ{vs} h=>h.cons_e (G:=λvs=>Inv c w σ (entq (m::r) vs++Γ)) λv ws a b=>(ih b).put a
theorem NoAl.entq(na:NoAl Γ):∀{ms:List MV} {vs:List Value},NoAl (entq ms vs++Γ)
 | [],_=>na
 |_::_,[]=>na
 |_::r,_::vs=>(NoAl.entq na (ms:=r) (vs:=vs)).cons_o
theorem Zys(B:Blk c sc)(na:NoAl Γ){ts:List Expr}:∀{is:List Nat} {ms:List MV} {vs:List Value} {σ:Sg} {w:Wd},tgs sc c.xs c.pn c.fix ts=some is->Zie is ms σ=some σ'->vs.length=ms.length->Inv c w σ (entq ms vs++Γ)->(∀w',Inv c w' σ' Γ->Q () w'.s)->
  wpAny c.M c.A (assignInOrder ((assignEach ts c.env).map (·.2)) vs) Q Ev w.s/\(assignEach ts c.env).length=ms.length/\(assignEach ts c.env).findIdx? (·.1)=none:=by
 induction ts with
 |nil=>
  intro is ms vs σ w h1 h2 hl I H
  cases h1
  cases ms with
  |cons _ _=>exact ns h2
  |nil=>
   cases h2
   obtain rfl:=List.eq_nil_of_length_eq_zero hl
   exact⟨wpAny_pure (H w I),rfl,rfl⟩
 |cons t ts ih=>
  intro is ms vs σ w h1 h2 hl I H
  refine Zh (show(nmE t).bind _=some is from h1) λx e1 h1=>Zh h1 λi e2 h1=>Zp h1 λjs e3 e4=>?_
  subst e4
  obtain⟨p,rfl⟩:=Zhe e1
  cases ms with
  |nil=>exact ns h2
  |cons m ms=>cases vs with
   |nil=>exact Nat.noConfusion hl
   |cons v vs=>
    have na':NoAl (entq ms vs++Γ):=na.entq
    have go:=λw' (I':Inv c w' (put σ i (some (.f m))) (entq ms vs++Γ))=>ih e3 h2 (Nat.succ.inj hl) I' H
    refine⟨?_,?_⟩
    .show wpAny c.M c.A (do holding vs (PySem.assign (.Name x p) c.env v);assignInOrder ((assignEach ts c.env).map (·.2)) vs) Q Ev w.s
     exact wpAny_bind (wpAny_holding (wpAny_assign_Name (Zas B I na' (Zov e2) λw' I'=>(go w' I').1)))
    .have len:∀{ts:List Expr} {is:List Nat} {ms:List MV} {σ:Sg},tgs sc c.xs c.pn c.fix ts=some is->Zie is ms σ=some σ'->(assignEach ts c.env).length=ms.length/\(assignEach ts c.env).findIdx? (·.1)=none:=λ{ts}=>by
      clear ih go
      induction ts with
      |nil=>
       intro is ms σ h1 h2
       cases h1
       cases ms with
       |cons _ _=>exact ns h2
       |nil=>exact⟨rfl,rfl⟩
      |cons t ts ih=>
       intro is ms σ h1 h2
       refine Zh (show(nmE t).bind _=some is from h1) λx e1 h1=>Zh h1 λi e2 h1=>Zp h1 λjs e3 e4=>?_
       subst e4
       obtain⟨p,rfl⟩:=Zhe e1
       cases ms with
       |nil=>exact ns h2
       |cons m ms=>
        obtain⟨l1,l2⟩:=ih e3 h2
        refine⟨congrArg (·+1) l1,?_⟩
        show List.findIdx? _ ((false,_)::assignEach ts c.env)=none
        rw[List.findIdx?_cons,l2];rfl
     exact len h1 h2
theorem Zjx(B:Blk c sc)(hh:c.A.handled=none){t:Expr}{b:Bd}(hb:bdC sc c.xs c.pn c.fix t=some b)(h:Zfy b m σ=some σ')(I:Inv c w σ (.o (.f m) v::Γ))(na:NoAl Γ)(H:∀w',Inv c w' σ' Γ->Q () w'.s):wpAny c.M c.A (PySem.assign t c.env v) Q Ev w.s:=by
 unfold bdC at hb
 cases ht:Zzg t with
 |none=>
  rw[ht]at hb
  refine Zh hb λx e1 hb=>Zp hb λi e2 e3=>?_
  subst e3
  obtain⟨p,rfl⟩:=Zhe e1
  cases(show some (put σ i (some (.f m)))=some σ' from h)
  exact wpAny_assign_Name (Zas B I na (Zov e2) H)
 |some ts=>
  rw[ht]at hb
  refine Zp hb λis e1 e2=>?_
  subst e2
  obtain⟨k,p,rfl⟩:=Zoq ht
  refine Zh (show(ZNw m).bind (λms=>Zie is ms σ)=some σ' from h) λms e2 h=>?_
  have r:RepF c.P w.Z (.tup ms) v:=by
   have r:RepF c.P w.Z m v:=I.st.1
   cases m with
   |tup l=>cases e2;exact r
   |_=>exact ns e2
  have I0:=I.pop
  refine r.tup_e (G:=λv=>wpAny c.M c.A (PySem.assign (.Tuple ts k p) c.env v) Q Ev w.s) λa vs n z rs hl=>?_
  have X:=λ{h₁:Heap} (kp:∀a o,w.s.heap.get? a=some o->h₁.get? a=some o)=>Zys (Ev:=Ev) B na e1 h rs.length ((I0.puts rs).junk B.toBeg kp w.s.toks) H
  refine wpAny_assign_Tuple hh (items:=vs.toArray) ⟨_,I.iv.zok _ _ z,rfl,n,rfl⟩ ?_ (X (λ_ _ e=>e)).2.2 λh₁ hx=>(X λa o e=>hx a o (λq=>ns2 (Zl _) (q▸e)) e).1
  rw[(X (λ_ _ e=>e)).2.1,List.size_toArray,rs.length]
theorem Inv.draw(B:Beg c)(I:Inv c w σ (itE c ia ms tup i::Γ)){fp wr:Addr->Prop}{St:Nat->Heap->Prop}{Zi:Zf}(W:Wk c ia fp wr ms Zi tup St)(h1:Zi.Sub w.Z)(h3:∀b,wr b->∃x,w.W b=some (2*Γ.length+1,x))(h4:∀b,fp b->(∃x,w.W b=some (2*Γ.length+1,x))\/∃o,w.Z b=some o/\w.s.heap.get? b=some o)(h5:ms.length<=Zb)
  {h':Heap}(g:Got c.P Zi w.s.heap h' m v)(st:St (i+1) h')(k:∀b o,¬wr b->w.s.heap.get? b=some o->h'.get? b=some o)(tk:Nat):∃w',w'.s={w.s with heap:=h',toks:=tk}/\Inv c w' σ (.o (.f m) v::itE c ia ms tup (i+1)::Γ):=by
 have go:∀{Z'},w.Z.Sub Z'->(∀a o,Z' a=some o->w.Z a=some o\/(w.s.heap.get? a=none/\h'.get? a=some o))->RepF c.P Z' m v->∃w',w'.s={w.s with heap:=h',toks:=tk}/\Inv c w' σ (.o (.f m) v::itE c ia ms tup (i+1)::Γ):=λ{Z'} hz zn r=>by
  have S:Stp c (Up Γ.length) w {w with s:={w.s with heap:=h',toks:=tk},Z:=Z'}:=.upd I.iv (λb hb=>(h3 b hb).elim λx q=>⟨_,q,_,Nat.le_refl _,rfl⟩) k (λb hb=>W.live _ _ st b hb) hz zn
  exact⟨_,rfl,(I.pop.pushE B S (Zrw ⟨fp,wr,St,Zi,W,λa o e=>hz a o (h1 a o e),st,h3,λb hb=>(h4 b hb).imp id λq=>q.elim λo q=>⟨o,hz b o q.1,S.zok b o (hz b o q.1)⟩,h5⟩)).put r⟩
 rcases g with g|⟨T,vs,n,ts,rfl,rfl,g1,g2,g3,g4⟩
 .exact go (λ_ _ e=>e) (λ_ _ e=>.inl e) (g.mono h1)
 .have zT:=I.iv.zn g1
  have sub:w.Z.Sub (λa=>if a=T then some (Zuq vs n)else w.Z a):=λa o e=>(if_neg λq=>ns2 zT (q▸e)).trans e
  refine go sub (λa o e=>?_) ⟨T,vs,n,rfl,if_pos rfl,g3.mono λa o e=>sub a o (h1 a o e),g4⟩
  by_cases q:a=T
  .rw[if_pos q]at e
   exact .inr (q▸⟨g1,by rw[g2,e]⟩)
  .rw[if_neg q]at e;exact .inl e
theorem Zbe{M:Model}{A:Around}{E:Value->Shared->Prop}{base:Heap}{l:List Env}{e L:Addr}{cls a0:Value}{Q:Unit->Shared->Prop}{s:Shared}
  (hh:Heap.HeldW base l e cls a0 L s.heap)(hQ:∀h',Heap.HeldW base l e cls a0 L h'->s.heap.UpToSlots h'->Q () {s with heap:=h'}):wpAny M A (setFlight (.ref e) (some L)) Q E s:=by
 obtain⟨hkb,hen,hl,oe,vs,T,oT,ts,he,hcls,hd,h1,hnT,hTe,hT,hdT,h3⟩:=hh
 have hsz3:3 < ts.size:=(Array.getElem?_eq_some_iff.mp h3).1
 have other:∀b,b≠T->(s.heap.update T (Obj.mapFields (·.setIfInBounds 3 ((some L:Option Addr).elim Value.none λf=>rawInt f)))).get? b=s.heap.get? b:=
  λb hb=>Heap.get?_update_other _ _ (Ne.symm hb)
 have noRecord:∀b o,s.heap.get? b=some o->(∀vs,o.data≠.fields vs)->b≠T:=λb o hb hnf q=>by
  rw[q,hT]at hb;injection hb with hb;subst hb;exact hnf ts hdT
 unfold setFlight
 refine wpAny_bind (wpAny_field he hd h1 ?_)
 rw[if_pos (show(Value.ref T != Value.none)=true from by simp)]
 refine wpAny_setField hT hdT hsz3 (hQ _ ⟨(λb o hbo=>(other b λq=>ns2 hnT (q▸hbo)).trans (hkb b o hbo)),hen,
  (hl.of_keeps λb o hb hnf=>⟨o,(other b (noRecord b o hb hnf)).trans hb,rfl⟩),?_⟩ λb o hb hnf=>⟨o.slots,(other b (noRecord b o hb hnf)).trans hb⟩)
 exact⟨oe,vs,T,_,_,(other e (Ne.symm hTe)).trans he,hcls,hd,h1,hnT,hTe,Heap.get?_update_self _ hT (Obj.isFreed_of_fields (Obj.data_mapFields hdT _)),Obj.data_mapFields hdT _,by simp[hsz3]⟩
theorem Air.frs{B:Heap}{e:Addr}{a0:Value}{h:Heap}(x:Air c B e a0 h):h.FunFrames B c.l:=x.elim (·.2.2.1) λx=>x.elim λ_ x=>x.2.2.2.1
theorem Air.stay{B:Heap}{e:Addr}{a0:Value}{h:Heap}(x:Air c B e a0 h):B.StaysIn h:=x.elim (·.1) λx=>x.elim λ_ x=>x.2.1
theorem Zjn{h B:Heap}{l:List Env}:h.FunFrames B l->∀L∈l.filterMap (·.frame),∃o,h.get? L=some o/\∀vs,o.data≠.fields vs:=by
 induction l with
 |nil=>exactλ_ L hL=>absurd hL List.not_mem_nil
 |cons e r ih=>
  intro x L hL
  obtain⟨_,⟨L',o,h2,_,h3,h4⟩,x'⟩:=x
  rw[List.filterMap_cons,h2]at hL
  exact(List.mem_cons.mp hL).elim (λq=>⟨o,q▸h3,h4⟩) (ih x' L)
theorem Flown.on{s':Shared}{h' B:Heap}{a0:Value}{e:Addr}(F:Flown c s' e)(hB:∀b o,c.s1.heap.get? b=some o->c.W1 b=none->b ∉ c.X->b ∉ c.FL->B.get? b=some o)(fr:s'.heap.FunFrames B c.l)(air':Air c B e a0 h')(up:s'.heap.UpToSlots h'):Flown c {s' with heap:=h'} e:=by
 refine⟨λb o hb hw hd=>?_,F.os,F.gens,B,a0,hB,air'⟩
 by_cases hl:b∈c.FL
 .obtain⟨o',ho',hn⟩:=Zjn fr b hl
  rcases F.kept b o hb hw hd with y|⟨_,sl,y⟩
  .cases y.symm.trans ho'
   exact(up b o y hn).elim λsl y'=>.inr ⟨hl,sl,y'⟩
  .cases y.symm.trans ho'
   exact(up b _ y hn).elim λsl' y'=>.inr ⟨hl,sl',y'⟩
 .exact .inl (air'.stay b o (hB b o hb hw hd hl))
theorem Zmo{B:Heap}{e L:Addr}{a0:Value}{A:Around}{outer:List Env}{s:Shared}(hfr:A.frames=some c.l)(hl:c.l=c.env::outer)(hf:c.env.frame=some L)(x:Air c B e a0 s.heap)
  (H:∀h',Heap.HeldW B c.l e (.ref c.bad) a0 L h'->s.heap.UpToSlots h'->Q () {s with heap:=h'}):wpAny c.M A (noteFrame (.ref e) c.env) Q Ev s:=by
 rcases x with x|⟨L',hf',x⟩
 .rw[hl]at x hfr
  exact wpAny_looks_onW hfr hf x λh' hh up=>H h' (by rw[hl];exact hh) up
 .cases hf.symm.trans hf'
  exact wpAny_noteFrame_againW hf x.2.2.2 (H _ x (Heap.UpToSlots.refl _))
theorem Zdx(tp:Top c)(hfr:c.A.frames=some c.l)(R:Er c E Ev):Er c E (notedBy c.M c.A c.env λe s'=>cameBackBy c.M c.A c.env Ev e s'):=λhe e s' T=>by
 obtain⟨outer,L,hl,hf⟩:=tp
 obtain⟨B,a0,hB,air⟩:=T.fly
 refine Zmo hfr hl hf air λh₂ hh up₂=>?_
 unfold cameBackBy
 obtain⟨hkb,hen,hl',oe,vs,tb,oT,ts,he',hcls,hd,h1,rest⟩:=id hh
 refine wpAny_bind (wpAny_field he' hd h1 ?_)
 show wpAny c.M c.A (setFlight (.ref e) c.env.frame) _ _ _
 rw[hf]
 exact Zbe hh λh' hh' up=>R he e _ (T.on hB air.frs (.inr ⟨L,hf,hh'⟩) (up₂.trans up))
end
end
section
open PySem.Calls
noncomputable def Ybe(c:Cx)(w:Wd)(σ:Sg)(Γ:List En):Fl->Flow->Prop
 | .next,f=>f=.next/\Inv c w σ Γ
 | .cont,f=>f=.cont/\Inv c w σ Γ
 | .ret o,f=>∃v,f=.ret v/\Inv c w σ (.o o v::Γ)
noncomputable abbrev GS(c:Cx)(E:Prop)(tree:Sem Flow)(T:Sg->(Fl->Sg->Prop)->Prop):Prop:=∀⦃σ:Sg⦄ ⦃Q:Fl->Sg->Prop⦄ ⦃w:Wd⦄ ⦃Γ:List En⦄,T σ Q->Inv c w σ Γ->NoAl Γ->∀⦃Qf:Flow->Shared->Prop⦄ ⦃Ev:Value->Shared->Prop⦄,
 (∀w' t f σ',Q t σ'->Ybe c w' σ' Γ t f->Qf f w'.s)->Er c E Ev->wpAny c.M c.A tree Qf Ev w.s
section
variable{c:Cx}{sc:Sc}{E:Prop}{N:Nat}{e t it:Expr}{x y z:CE}{b o:List Stmt}{w w':Wd}{σ σ':Sg}{Γ:List En}{pos:Pos}{ms:List MV}{ia:Addr}{i:Nat}{tup:Bool}{Qf:Flow->Shared->Prop}{Ev:Value->Shared->Prop}
theorem Zqt{o:OV}:∀{a b:Sg} {i:Nat},nth (fgt a b) i=some (some o)->nth b i=some (some o)
 | [],_,_,h=>ns h
 |_::_,[],_,h=>ns h
 |a::r,b::q,0,h=>by cases a with
  |none=>exact ns (Option.some.inj h)
  |some _=>exact h
 |a::r,b::q,i+1,h=>Zqt (a:=r) (b:=q) (i:=i) h
theorem Inv.fgt(I:Inv c w σ' Γ)(σ:Sg):Inv c w (Mine.fgt σ σ') Γ:=⟨I.iv,λi o e=>I.en i o (Zqt e),I.st⟩
theorem ZKu:GS c E (PySem.execs [] c.env) ((mg N .nil).s E):=λσ Q w Γ q I na Qf Ev K R=>wpAny_execs_nil (K w .next _ σ q ⟨rfl,I⟩)
theorem ZGl{s:Stmt}(h1:GS c E (PySem.exec s c.env) ((mg N x).s E))(h2:GS c E (PySem.execs b c.env) ((mg N y).s E)):GS c E (PySem.execs (s::b) c.env) ((mg N (.cons x y)).s E):=λσ Q w Γ q I na Qf Ev K R=>
 wpAny_execs_cons (h1 q I na (λw t f σ q h=>by
  cases t with
  |next=>rw[h.1];exact h2 q h.2 na K R
  |cont=>have:=K w .cont f σ q h;rw[h.1]at this⊢;exact this
  |ret o=>have:=K w (.ret o) f σ q h;obtain⟨v,rfl,h⟩:=h;exact this) R)
theorem ZAu(B:Blk c sc):interactive c.env=false:=by
 unfold interactive
 rw[B.kf];rfl
theorem ZSf(B:Blk c sc)(he:OkE c E N e x)(hs:swapsWith e none pos.line c.env=pure false):GS c E (PySem.exec (.Expr e pos) c.env) ((mg N (.ex x)).s E):=λσ Q w Γ q I na Qf Ev K R=>
 wpAny_Expr_any (he.v q I (λw v o σ q I=>K w .next _ σ q ⟨rfl,I.pop⟩) R) (ZAu B) hs
theorem ZDi:GS c E (PySem.exec (.Pass pos) c.env) ((mg N .pass).s E):=λσ Q w Γ q I na Qf Ev K R=>wpAny_Pass (K w .next _ σ q ⟨rfl,I⟩)
theorem ZGk:GS c E (PySem.exec (.Continue pos) c.env) ((mg N .cont).s E):=λσ Q w Γ q I na Qf Ev K R=>wpAny_Continue (K w .cont _ σ q ⟨rfl,I⟩)
theorem ZJn(he:OkE c E N e x):GS c E (PySem.exec (.Return (some e) pos) c.env) ((mg N (.ret x)).s E):=λσ Q w Γ q I na Qf Ev K R=>
 wpAny_Return_some (he.v q I (λw v o σ q I=>K w (.ret o) _ σ q ⟨v,rfl,I⟩) R)
theorem ZRt(ht:OkE c E N e x)(hb:GS c E (PySem.execs b c.env) ((mg N y).s E))(ho:GS c E (PySem.execs o c.env) ((mg N z).s E)):GS c E (PySem.exec (.If e b o pos) c.env) ((mg N (.ifs x y z)).s E):=λσ Q w Γ q I na Qf Ev K R=>
 wpAny_If (ht.t (Q:=λv σ=>onB ((mg N y).s E σ Q) ((mg N z).s E σ Q) v) q I (λw v σ q I=>by
  cases v with
  |true=>exact hb q I na K R
  |false=>exact ho q I na K R) R)
theorem Zva(B:Blk c sc)(tp:Top c)(rm:RoomB c N)(ht:OkE c E N e x)(hb:GS c E (PySem.execs b c.env) ((mg N y).s E)):GS c E (PySem.exec (.While e b [] pos) c.env) ((mg N (.whl x y)).s E):=λσ₀ Q w Γ q I na Qf Ev K R=>by
 obtain⟨⟨J,k,hk,h0,h1⟩⟩:=(q:WhileP _ _ σ₀ Q)
 have nb:=Zdx tp rm.frames R
 refine wpAny_While (codeAny_whileLoop (λn s=>∃k w σ,k < n/\s=w.s/\Inv c w σ Γ/\J k σ) ?_ rounds ⟨k,w,σ₀,hk,rfl,I,h0⟩)
 rintro n s ⟨k,w,σ,hn,rfl,I,hJ⟩
 refine ht.t (Q:=λv σ=>_) (h1 k σ hJ) I (λw v σ q I=>?_) nb
 cases v with
 |false=>exact wpAny_execs_nil (K w .next _ σ (q.1 rfl) ⟨rfl,I⟩)
 |true=>
  obtain⟨k',rfl,q2⟩:=q.2 rfl
  refine hb q2 I na (λw t f σ q h=>?_) nb
  have go:stK (fgt σ₀ σ) (J k')->Inv c w σ Γ->∃m,m < n/\∃k w' σ,k < m/\w.s=w'.s/\Inv c w' σ Γ/\J k σ:=λq I=>⟨k'+1,hn,k',w,_,Nat.lt_succ_self _,rfl,I.fgt σ₀,Yy q⟩
  cases t with
  |next=>rw[h.1];exact go q h.2
  |cont=>rw[h.1];exact go q h.2
  |ret o=>have:=K w (.ret o) f σ q h;obtain⟨v,rfl,h⟩:=h;exact this
theorem Inv.under(B:Beg c){e:En}{o:OV}{v:Value}(I:Inv c w σ (.o o v::e::Γ)):Inv c (rtg w (2*(Γ.length+1)+1) (2*Γ.length+1)) σ (.o o v::Γ):=
 I.pop.pop.push B (.mv I.iv ⟨_,Nat.le_succ _,rfl⟩) (RepO.mv I.st.1)
theorem Stp.drop{wr:Addr->Prop}(I:Iv c w)(hw:∀b,wr b->∃x,w.W b=some (2*Γ.length+1,x)){h:Heap}(k:∀b o,¬wr b->w.s.heap.get? b=some o->h.get? b=some o)(tk:Nat):
  Stp c (Up Γ.length) w {w with s:={w.s with heap:=h,toks:=tk},W:=λa=>(w.W a).bind λq=>if q.1=2*Γ.length+1 then none else some q}:=by
 refine .upd' I (λb hb=>(hw b hb).elim λx q=>⟨_,q,_,Nat.le_refl _,rfl⟩) k (λ_ _ e=>e) (λ_ _ e=>.inl e) (λa e=>⟨λq=>e (by rw[q];rfl),λz=>absurd ?_ e⟩) λt x b hX e=>?_
 .exact(hw a z).elim λx q=>by rw[q];exact if_pos rfl
 .show(w.W b).bind _=_
  rw[e];exact if_neg λq=>hX ⟨_,Nat.le_refl _,q⟩
theorem Jo{it:Expr}{env:Env}(h:∀es k p,it≠.Set es k p)(x:Value):foldedSetIterable it env x=pure x:=by
 cases it <;> first|rfl|exact absurd rfl (h _ _ _)
theorem Zan{s:Shared}{R:Result->Shared->Prop}{target:Expr}{it:Value}{body:List Stmt}{env:Env}{A:Around}(I:Nat->Shared->Prop)
  (turn:∀n s,I n s->wpAny c.M A (pyNext it) (λr s₁=>match r with
   |none=>R (.ok .next) s₁
   |some v=>wpAny c.M A (letOwnedTupleGo target it v) (λ_ s₁=>wpAny c.M A (PySem.assign target env v) (λ_ s₂=>wpAny c.M A (PySem.execs body env) (λf s₃=>match f with
     | .next| .cont=>∃m,m < n/\I m s₃
     | .brk=>R (.ok .next) s₃
     | .ret v=>R (.ok (.ret v)) s₃) (notedBy c.M A env λe s'=>R (.error e) s') s₂) (notedBy c.M A env λe s'=>R (.error e) s') s₁) (notedBy c.M A env λe s'=>R (.error e) s') s₁) (notedBy c.M A env λe s'=>R (.error e) s') s)
  (n:Nat)(h:I n s):codeAny c.M A (.forLoop target it body [] env) R s:=by
 refine codeAny_loop' rfl I (λn s hI=>?_) n h
 show wpAny _ _ ((forTurn target it body [] env).onRaise (λx=>do noteFrame x env;theTreesLotGoes x)) _ _ s
 refine wpAny_noted ?_
 simp only[forTurn]
 refine wpAny_bind (wpAny_standAt (wpAny_bind (wpAny_onRaise (wpAny_mono (turn n s hI) (λr s₁ h₁=>?_) λ_ _ h'=>wpAny_standAt h'))))
 cases r with
 |none=>exact wpAny_pure (.inr ⟨rfl,codeAny_block (wpAny_execs_nil h₁)⟩)
 |some v=>
  refine wpAny_bind (wpAny_mono h₁ (λ_ s₁' h₁'=>?_) λ_ _ h'=>h')
  refine wpAny_bind (wpAny_mono h₁' (λ_ s₂ h₂=>wpAny_bind (wpAny_mono h₂ (λf s₃ h₃=>?_) λ_ _ h'=>h')) λ_ _ h'=>h')
  cases f with
  |next=>exact wpAny_pure (.inl ⟨rfl,h₃⟩)
  |cont=>exact wpAny_pure (.inl ⟨rfl,h₃⟩)
  |brk=>exact wpAny_pure h₃
  |ret v=>exact wpAny_pure h₃
theorem ZMh(B:Blk c sc)(tp:Top c)(rm:RoomB c N){bd:Bd}(hset:∀es k p,it≠.Set es k p)(hbd:bdC sc c.xs c.pn c.fix t=some bd)(ht:tup=true->Xv t=true)(hi:GI c E tup (eval it c.env) ((mg N x).i E))(hs:GS c E (PySem.execs b c.env) ((mg N y).s E)):
  GS c E (PySem.exec (.For t it b [] pos) c.env) ((mg N (.each bd x y)).s E):=λσ Q w Γ q I na Qf Ev K R=>by
 refine wpAny_For (hi q I (λw ia ms σ₀ q I=>?_) R) (Jo hset)
 obtain⟨⟨J,h0,h1,h2⟩⟩:=(q:ForP _ _ ms σ₀ Q)
 have nb:=Zdx tp rm.frames R
 refine Zan (c:=c) (λk s=>∃i w σ,k=ms.length+1 - i/\i<=ms.length/\s=w.s/\Inv c w σ (itE c ia ms tup i::Γ)/\J i σ) ?_ (ms.length+1 - 0) ⟨0,w,σ₀,rfl,Nat.zero_le _,rfl,I,h0⟩
 rintro k s ⟨i,w,σ,rfl,hi',rfl,I,hJ⟩
 obtain⟨fp,wr,St,Zi,W,z1,z2,z3,z4,z5⟩:=I.st.1.2
 by_cases hlt:i < ms.length
 .have hm:ms[i]?=some ms[i]:=List.getElem?_eq_getElem hlt
  obtain⟨σ1,e1,q⟩:=Zo (h1 i _ hm σ hJ)
  refine wpAny_mono (W.item i ms[i] w.s t (λv s₁=>wpAny c.M c.A (PySem.assign t c.env v) (λ_ s₂=>wpAny c.M c.A (PySem.execs b c.env) (λf s₃=>match f with
    | .next| .cont=>∃m,m < ms.length+1 - i/\∃i w σ,m=ms.length+1 - i/\i<=ms.length/\s₃=w.s/\Inv c w σ (itE c ia ms tup i::Γ)/\J i σ
    | .brk=>Qf .next s₃
    | .ret v=>Qf (.ret v) s₃) (notedBy c.M c.A c.env λe s'=>cameBackBy c.M c.A c.env Ev e s') s₂) (notedBy c.M c.A c.env λe s'=>cameBackBy c.M c.A c.env Ev e s') s₁) _ ht hm z2 λv h' tk g st hk=>?_) (λr s₁ h₁=>?_) λ_ _ h'=>h'
  .obtain⟨w',e',I'⟩:=I.draw B.toBeg W z1 z3 z4 z5 g st hk tk
   rw[<- e']
   refine Zjx B rm.handled hbd e1 I' na.cons_it λw I=>hs (Yy q) I na.cons_it (λw t f σ q h=>?_) nb
   have go:stK (fgt σ₀ σ) (J (i+1))->Inv c w σ (itE c ia ms tup (i+1)::Γ)->∃m,m < ms.length+1 - i/\∃i w' σ,m=ms.length+1 - i/\i<=ms.length/\w.s=w'.s/\Inv c w' σ (itE c ia ms tup i::Γ)/\J i σ:=λq I=>⟨ms.length+1 - (i+1),Nat.sub_succ_lt_self _ _ (Nat.lt_succ_of_lt hlt),i+1,w,_,rfl,hlt,rfl,I.fgt σ₀,Yy q⟩
   cases t with
   |next=>rw[h.1];exact go q h.2
   |cont=>rw[h.1];exact go q h.2
   |ret o=>
    obtain⟨v,rfl,h⟩:=h
    exact K (rtg w _ _) (.ret o) (.ret v) σ q ⟨v,rfl,h.under B.toBeg⟩
  .cases r with
   |none=>exact h₁.elim
   |some v=>exact h₁
 .obtain rfl:=Nat.le_antisymm hi' (Nat.not_lt.mp hlt)
  refine W.done w.s _ _ z2 λh' tk hk=>?_
  exact K _ .next _ σ (h2 σ hJ) ⟨rfl,I.pop.next B.toBeg (Stp.drop I.iv z3 hk tk)⟩
end
end
section
open PySem.Calls
section
variable{c:Cx}{sc:Sc}{E:Prop}{N:Nat}{e b:Expr}{x y:CE}{n:Nat}{f:Expr->CE}{w w':Wd}{v u vb:Value}{o:OV}{m:MV}{σ σ':Sg}{Γ:List En}{p:Pa}{l:List MV}
structure Mut(c:Cx)(w:Wd)(σ:Sg)(Γ:List En)(p:Pa)(l:List MV)(vb:Value)(a:Addr)(us:List Value)(n:Nat):Prop where
 e:vb=.ref a
 g:w.s.heap.get? a=some (Zaj us n)
 r:RepFs c.P w.Z l us
 h:l.length<=Zb
 put:∀{h':Heap} {l':List MV} {us':List Value} {n':Nat} {σ':Sg} (tk:Nat),Heap.SameBut a w.s.heap h'->h'.get? a=some (Zaj us' n')->RepFs c.P w.Z l' us'->l'.length<=Zb->Zez σ (.l l') p=some σ'->Inv c {w with s:={w.s with heap:=h',toks:=tk}} σ' Γ
theorem Zqy(B:Blk c sc)(I:Inv c w σ Γ)(hp:pk p σ=some (.l l))(hv:PV c w p vb):∃a us n,Mut c w σ Γ p l vb a us n:=by
 obtain⟨t,x,L⟩:=ZAh I.en hp hv
 obtain⟨a,us,n,rfl,z,g,r,h⟩:=L.r
 refine⟨a,us,n,rfl,g,r,h,λ{h' l' us' n' σ'} tk hs hg r' hl he=>?_⟩
 have S:Stp c (·=2*t) w {w with s:={w.s with heap:=h',toks:=tk}}:=.upd I.iv (wr:=(·=a)) (λb hb=>⟨_,hb▸z,rfl⟩) (λb o nb e=>hs.extBut b o nb e) (λb hb=>⟨_,hb▸hg⟩) (λ_ _ e=>e) λ_ _ e=>.inl e
 exact I.turn B S (L.put S (λy hy b e=>⟨e,(I.iv.wz b (Ze e)).2.elim λo q=>(hs.extBut b o (λz'=>hy (Prod.mk.inj (Option.some.inj (e.symm.trans ((congrArg w.W z').trans z)))).2) q).trans q.symm⟩) (o':=.l l') ⟨a,us',n',rfl,z,hg,r',hl⟩ he)
theorem Zae(f:Array Value->Array Value)(its:Array Value)(n:Nat):∃n',Obj.mapSeq f (listOf its n)=listOf (f its) n':=by
 obtain⟨n',hd⟩:=Obj.data_mapSeq (o:=listOf its n) rfl f
 refine⟨n',?_⟩
 have:∀o:Obj,o.cls=.type "list"->o.dict=none->o.slots=#[]->o.data=.seq (f its) n'->o=listOf (f its) n':=λo a b c d=>by
  obtain⟨o1,o2,o3,o4⟩:=o
  cases a;cases b;cases c;cases d;rfl
 exact this _ (Obj.cls_mapSeq _ _) rfl rfl hd
theorem Zer{s:Shared}{prog:Program}{w:World}{A:Around}{E:Value->Shared->Prop}{l:Addr}{items:Array Value}{n:Nat}{k:Int}{t:Tok}{v:Value}{Q:Unit->Shared->Prop}(hl:s.heap.get? l=some (listOf items n))
  (h0:0<=k)(hfit:k < 2 ^ 63)(hn:k < items.size)
  (hQ:∀h' n',h'.get? l=some (listOf (items.setIfInBounds k.toNat v) n')->Heap.SameBut l s.heap h'->Q () {s with heap:=h'}):
  wpAny (model prog w) A (setItem (.ref l) (.int k t) v) Q E s:=by
 have hL:s.heap.IsList l items:=⟨_,hl,rfl,n,rfl⟩
 unfold setItem
 try with_reducible refine wpAny_holding ?_
 first|refine wpAny_bind (wpAny_pure ?_)|skip
 refine wpAny_bind (wpAny_sequenceKey hL.typeIs (by decide) ?_)
 refine wpAny_bind (wpAny_callSpecial?_slot (name:=Str.ofString "__setitem__") hL.typeIs slot_list_setitem
  (wpAny_call_entry slot_list_setitem hL.typeIs entry_list_setitem ?_ (args_list_setitem _ _ _)))
 show wpAny _ _ (Builtin.List.listSubscript? (.int k t)>>=_) _ _ s
 refine wpAny_bind (wpAny_listSubscript_int (fitsIndex_of h0 hfit) ?_)
 clear hfit
 obtain⟨j,rfl⟩:=Int.eq_ofNat_of_zero_le h0
 have hj:j < items.size:=Int.ofNat_lt.mp hn
 show wpAny _ _ ((seqItemAt l j >>=λr=>pure (r.map (j,·)))>>=_) _ _ s
 refine wpAny_bind (wpAny_bind (wpAny_seqItemAt hl rfl (wpAny_pure ?_)))
 rw[Array.getElem?_eq_getElem hj]
 show wpAny _ _ (setSeqItemAt l j v >>=_) _ _ s
 obtain⟨n',hd'⟩:=Zae (·.setIfInBounds j v) items n
 have hfin:(s.heap.update l (Obj.mapSeq (·.setIfInBounds j v))).get? l=some (listOf (items.setIfInBounds j v) n'):=by
  rw[Heap.get?_update_self _ hl (by rw[hd'];rfl),hd']
 refine wpAny_bind (wpAny_setSeqItemAt hl rfl ?_)
 first
  |exact wpAny_bind (wpAny_pure (wpAny_pure ⟨.none,rfl,wpAny_pure (hQ _ _ hfin (Heap.SameBut.update ..))⟩))
  |exact wpAny_pure ⟨.none,rfl,wpAny_pure (hQ _ _ hfin (Heap.SameBut.update ..))⟩
variable{Q:Unit->Shared->Prop}{Ev:Value->Shared->Prop}{K:Sg->Prop}
theorem Zdq(B:Blk c sc)(I:Inv c w σ Γ)(hv:PV c w p vb){k:MV}{kv:Value}(rk:RepF c.P w.Z k kv)(rv:RepF c.P w.Z m v)(h:onS (λw=>onS (λw=>onS (λσ=>stK σ K) (Zez σ w p)) (Zgz w k m)) (pk p σ))(H:∀w' σ',K σ'->Inv c w' σ' Γ->Q () w'.s):
  wpAny c.M c.A (setItem vb kv v) Q Ev w.s:=by
 obtain⟨ow,h1,h⟩:=Zo h
 obtain⟨w1,h2,h⟩:=Zo h
 obtain⟨σ',h3,hK⟩:=Zo h
 cases ow with
 |f _=>exact ns h2
 |o _ _=>exact ns h2
 |l l=>
  refine Zh (show(Jr k).bind (λi=>(ZJe l i m).map OV.l)=some w1 from h2) λi e h2=>Zp h2 λl' h4 e4=>?_
  subst e4
  obtain⟨⟨q1,q2⟩,rfl⟩:=Zak (show(if 0<=i/\i.toNat < l.length then some (l.set i.toNat m)else none)=some l' from h4)
  obtain⟨j,rfl⟩:=Int.eq_ofNat_of_zero_le q1
  obtain⟨a,us,n,M⟩:=Zqy B I h1 hv
  have rk:RepF c.P w.Z (.int j) kv:=Zcw e▸rk
  refine rk.int_e (G:=λkv=>wpAny c.M c.A (setItem vb kv v) Q Ev w.s) λt=>M.e▸?_
  have q2:j < l.length:=q2
  refine Zer M.g q1 (Int.ofNat_lt.mpr (Nat.lt_of_lt_of_le q2 (Nat.le_trans M.h (by decide:Zb<=2 ^ 63)))) (Int.ofNat_lt.mpr (Nat.lt_of_lt_of_eq q2 M.r.length.symm)) λh' n' g hs=>H _ σ' (Yy hK) (M.put w.s.toks hs (us':=us.set j v) (n':=n') (by rw[g,List.setIfInBounds_toArray];rfl) (M.r.set rv j) (by rw[List.length_set];exact M.h) h3)
theorem ZPn(B:Blk c sc){q:Pos}{i:Expr}{j:Nat}(na:NoAl Γ)(hp:pth sc c.xs n b=some (.v j))(hi:OkE c E N i y)(h:(mg N (.sub (.v j) y)).g o E σ K)(I:Inv c w σ (.o o v::Γ))(H:∀w' σ',K σ'->Inv c w' σ' Γ->Q () w'.s)(R:Er c E Ev):
  wpAny c.M c.A (PySem.assign (.Subscript b i q) c.env v) Q Ev w.s:=by
 obtain⟨o1,h1,h⟩:=Zo h
 obtain⟨vb,k⟩:=Yq B I hp h1
 have I':Inv c (fz w _) σ (.al j vb::.o (.f o.frz) v::Γ):=⟨(I.frz B.toBeg).iv,(I.frz B.toBeg).en,k.pv,(I.frz B.toBeg).st⟩
 rw[PySem.assign_Subscript]
 refine wpAny_bind (wpAny_holding (k.go (tk:=w.s.toks) λt=>wpAny_bind (wpAny_holding (hi.v (w:={fz w _ with s:={w.s with toks:=t}}) h (I'.tok B.toBeg t) (λw kv k σ h I=>?_) R))))
 have I:=I.frz B.toBeg
 exact wpAny_bind (wpAny_standAt (wpAny_bind (wpAny_holding (Zdq (w:=fz w _) (p:=.v j) B I.pop.pop.pop I.st.2.1 I.st.1 I.st.2.2.1 (Ye (Ye h)) λw' σ' k I=>wpAny_release (H w' σ' k I)))))
theorem ZPo(B:Blk c sc){q:Pos}{i:Expr}(hp:pth sc c.xs n b=some p)(hi:Atm c i ((mg N y).e E))(h:(mg N (.sub p y)).g o E σ K)(I:Inv c w σ (.o o v::Γ))(H:∀w' σ',K σ'->Inv c w' σ' Γ->Q () w'.s):
  wpAny c.M c.A (PySem.assign (.Subscript b i q) c.env v) Q Ev w.s:=by
 obtain⟨_,_,h⟩:=Zo h
 obtain⟨k,σ,w',e,h,I,go⟩:=hi h (I.frz B.toBeg)
 have h:=Ye (Ye h)
 obtain⟨o1,h1,_⟩:=Zo (id h)
 obtain⟨vb,kp⟩:=Yq B I hp h1
 rw[PySem.assign_Subscript]
 have e:w'.s=w.s:=e
 refine wpAny_bind (wpAny_holding ?_)
 have kg:=λ{Q E}=>kp.go (tk:=w'.s.toks) (Q:=Q) (E:=E)
 rw[<- e]
 exact kg λt=>wpAny_bind (wpAny_holding (by
  have go:=λ{Q E}=>go (tk:=t) (Qv:=Q) (Ev:=E)
  rw[show(fz w (ZBe (2*Γ.length+1))).s=w'.s from e.symm]at go
  exact go λkv t' rk=>wpAny_bind (wpAny_standAt (wpAny_bind (wpAny_holding (Zdq (w:={w' with s:={w'.s with toks:=t'}}) B (I.pop.tok B.toBeg t') kp.pv rk I.st.1 h λw' σ' k I=>wpAny_release (H w' σ' k I)))))))
end
end
section
open PySem.Calls
section
variable{c:Cx}{sc:Sc}{E:Prop}{N:Nat}{e b:Expr}{x y:CE}{n:Nat}{f:Expr->CE}{w w':Wd}{v u vb:Value}{o:OV}{m:MV}{σ σ':Sg}{Γ:List En}{p:Pa}{l:List MV}{Qv:Value->Shared->Prop}{Ev:Value->Shared->Prop}{Q:OV->Sg->Prop}{ap pos:Pos}
theorem Zbx{xs:List Str}(h:pth sc xs n b=some p){a:Str}{env:Env}{t:Sem Value}:attributeBase b a env t=t:=by
 rcases Zwc h with h|⟨_,b',a',pos',_,_,rfl,_⟩
 .obtain⟨x,pos',rfl,_⟩:=Zfg h
  rfl
 .rfl
noncomputable def ZUl(p:Pa)(m:MV)(σ:Sg)(Q:OV->Sg->Prop):Prop:=onS (λw=>match w with| .l vs=>onB (onS (λσ=>stK σ (Q (.f .none))) (Zez σ (.l (vs++[m])) p)) False (decide (vs.length < Zb))|_=>False) (pk p σ)
theorem Zqc(B:Blk c sc)(I:Inv c w σ Γ)(hv:PV c w p vb)(rv:RepF c.P w.Z m v)(h:ZUl p m σ Q)(H:∀w' v o σ',Q o σ'->Inv c w' σ' (.o o v::Γ)->Qv v w'.s):wpAny c.M c.A (call (.builtin "list.append") [vb,v]) Qv Ev w.s:=by
 obtain⟨ow,h1,h⟩:=Zo h
 cases ow with
 |f _=>exact h.elim
 |o _ _=>exact h.elim
 |l vs=>
  obtain⟨hl,h⟩:=Zfe h
  obtain⟨σ',h3,hK⟩:=Zo h
  have hl:=of_decide_eq_true hl
  obtain⟨a,us,n,M⟩:=Zqy B I h1 hv
  have e:=M.r.length
  rw[M.e]
  refine wpAny_list_append_plain (items:=us.toArray) ⟨n,M.g⟩ (λh' hp hs=>?_) (Nat.le_trans (Nat.le_of_eq (List.size_toArray.trans e)) (Nat.le_trans (Nat.le_of_lt hl) ten))
  obtain⟨n',hp⟩:=hp
  exact H _ _ _ σ' (Yy hK) ((M.put w.s.toks hs (us':=us++[v]) (n':=n') (by rw[hp,List.push_toArray]) ((RepFs.one rv).append M.r) (by rw[List.length_append];exact hl) h3).put (m:=.none) rfl)
theorem Zsk(B:Blk c sc){t:Nat}{Q2:Value×List Value->Shared->Prop}{pl:Sem Bool}{ow:OV}(r:Rd c.P w ow vb)(hl:ZEz ow=true)(H:Q2 (.builtin "list.append",[vb]) {w.s with toks:=t}):wpAny c.M c.A (getMethod vb "append" pl) Q2 Ev {w.s with toks:=t}:=by
 cases ow with
 |l vs=>exact r.elim λs r=>r.elim λx r=>r.e (G:=λvb=>Q2 (.builtin "list.append",[vb]) {w.s with toks:=t}->wpAny c.M c.A (getMethod vb "append" pl) Q2 Ev {w.s with toks:=t}) (λa us n _ g _ _ H=>getMethod_list_append (s:={w.s with toks:=t}) g rfl rfl H) H
 |_=>exact nf hl
theorem Zmn(hst:Zd e=false)(hp:pth sc c.xs n b=some p)(hline:(ap.endLine==pos.line)=true)
  (h:wpAny c.M c.A (eval b c.env) (λov s₁=>∀pl,wpAny c.M c.A (getMethod ov "append" pl) (λfx s₂=>wpAny c.M c.A (callWith pos fx.1 fx.2 (backTo pos [(false,eval e c.env)]) []) Qv Ev s₂) Ev s₁) Ev w.s):wpAny c.M c.A (eval (.Call (.Attribute b "append" ap) [e] [] pos) c.env) Qv Ev w.s:=by
 refine Xx (Zbx hp) (by rw[List.any_cons,hst];rfl) (by simp) hline ?_
 rw[Zz hst];exact h
theorem Ybb(B:Blk c sc){j:Nat}(hst:Zd e=false)(hline:(ap.endLine==pos.line)=true)(hp:pth sc c.xs n b=some (.v j))(he:OkE c E N e x):GV c E (eval (.Call (.Attribute b "append" ap) [e] [] pos) c.env) ((mg N (.app (.v j) x)).e E):=λσ Q w Γ q I Qv Ev K R=>by
 obtain⟨ow,h1,q⟩:=Zo q
 obtain⟨hl,q⟩:=Zfe q
 obtain⟨vb,k⟩:=Yq B I hp h1
 have I':Inv c w σ (.al j vb::Γ):=⟨I.iv,I.en,k.pv,I.st⟩
 exact Zmn hst hp hline (k.go (tk:=w.s.toks) λt pl=>Zsk B k.rd hl (Calls.callWith_builtin rfl (evalArgs_plain (spliced_cons (he.v (w:={w with s:={w.s with toks:=t}}) q (I'.tok B.toBeg t) (λw v o σ q I=>spliced_nil (by
  have I:=I.frz B.toBeg
  exact Zqc (w:=fz w _) (p:=.v j) B I.pop.pop I.st.2.1 I.st.1 (Ye q) K)) R)))))
theorem Ybc(B:Blk c sc)(hst:Zd e=false)(hline:(ap.endLine==pos.line)=true)(hp:pth sc c.xs n b=some p)(he:Atm c e ((mg N x).e E)):GV c E (eval (.Call (.Attribute b "append" ap) [e] [] pos) c.env) ((mg N (.app p x)).e E):=λσ Q w Γ q I Qv Ev K R=>by
 obtain⟨ow,_,q⟩:=Zo q
 obtain⟨_,q⟩:=Zfe q
 obtain⟨m,σ,w',e,q,I,go⟩:=he q I
 have q:ZUl p m σ Q:=q
 obtain⟨ow,h1,q'⟩:=Zo (id q)
 obtain⟨vb,k⟩:=Yq B I hp h1
 have hl:ZEz ow=true:=by
  cases ow with
  |l _=>rfl
  |_=>exact q'.elim
 have kg:=λ{Q E}=>k.go (tk:=w'.s.toks) (Q:=Q) (E:=E)
 rw[<- e]
 rw[<- e]at go
 exact Zmn hst hp hline (kg λt pl=>Zsk B k.rd hl (Calls.callWith_builtin rfl (evalArgs_plain (spliced_cons (go (tk:=t) λv t' rv=>spliced_nil (Zqc (w:={w' with s:={w'.s with toks:=t'}}) B (I.tok B.toBeg t') k.pv rv q K))))))
theorem Zye{us:List Value}(h:0 < us.length):us.toArray.eraseIdxIfInBounds (us.toArray.size - 1)=(us.take (us.length - 1)).toArray:=by
 have h1:us.length - 1 < us.length:=Nat.sub_lt h Nat.one_pos
 unfold Array.eraseIdxIfInBounds
 rw[dif_pos (show us.toArray.size - 1 < us.toArray.size from h1),List.eraseIdx_toArray,show us.toArray.size=us.length from rfl,List.eraseIdx_eq_take_drop_succ,List.drop_eq_nil_of_le (Nat.le_of_eq (Nat.sub_add_cancel h).symm),List.append_nil]
theorem ZKe(B:Blk c sc)(hline:(ap.endLine==pos.line)=true)(hp:pth sc c.xs n b=some p):GV c E (eval (.Call (.Attribute b "pop" ap) [] [] pos) c.env) ((mg N (.pop p)).e E):=λσ Q w Γ q I Qv Ev K R=>by
 obtain⟨ow,h1,q⟩:=Zo q
 obtain⟨vb,k⟩:=Yq B I hp h1
 cases ow with
 |f _=>exact q.elim
 |o _ _=>exact q.elim
 |l vs=>
  obtain⟨mv,hlast,q⟩:=Zo q
  obtain⟨σ',h3,q⟩:=Zo q
  obtain⟨a,us,n0,M⟩:=Zqy B I h1 k.pv
  have go:=λ{Q E}=>k.go (tk:=w.s.toks) (Q:=Q) (E:=E)
  rw[M.e]at go
  refine Xx (Zbx hp) rfl (by simp) hline (go λt pl=>?_)
  refine getMethod_list_of (s:={w.s with toks:=t}) PySem.F.slot_list_pop PySem.F.type_list_pop (items:=us.toArray) ⟨_,M.g,rfl,n0,rfl⟩ ⟨_,M.g,rfl⟩ ?_
  have hul:=M.r.length
  have hne:vs≠[]:=λq=>by subst q;cases hlast
  have hpos:0 < vs.length:=List.length_pos_iff.mpr hne
  obtain⟨z,hy,ry⟩:=M.r.get (i:=vs.length - 1) (by rw[<- List.getLast?_eq_getElem?];exact hlast)
  show wpAny c.M c.A (callWith pos (.builtin "list.pop") [.ref a] (backTo pos (starEach [] c.env)) []) Qv Ev _
  refine P.pop_list (s:={w.s with toks:=t}) (y:=z) (n:=n0) M.g (by rw[List.size_toArray,hul,List.getElem?_toArray];exact hy) ?_ (Nat.le_trans (Nat.le_of_eq (List.size_toArray.trans hul)) (Nat.le_trans M.h ten))
  obtain⟨n',hd⟩:=Zae (λxs=>xs.eraseIdxIfInBounds (us.toArray.size - 1)) us.toArray n0
  have hg:(w.s.heap.update a (Obj.mapSeq λxs=>xs.eraseIdxIfInBounds (us.toArray.size - 1))).get? a=some (Zaj (us.take (us.length - 1)) n'):=by
   rw[Heap.get?_update_self _ M.g (by rw[hd];rfl),hd]
   rw[Zye (hul.symm▸hpos)]
  have r':RepFs c.P w.Z vs.dropLast (us.take (us.length - 1)):=by
   rw[List.dropLast_eq_take,hul];exact M.r.take _
  exact K _ z _ σ' (Yy q) ((M.put t (Heap.SameBut.update ..) hg r' (by rw[List.length_dropLast];exact Nat.le_trans (Nat.sub_le _ _) M.h) h3).put ry)
noncomputable def ZOj(P:Px)(Z:Zf)(l:List (MV×MV))(f:Str->Option Value):Prop:=∀x,Has P Z (Zhx x l) (f x)
theorem Has.getD{P:Px}{Z:Zf}{a:Option MV}{v:Option Value}(h:Has P Z a v){d:MV}{u:Value}(rd:RepF P Z d u):RepF P Z (a.getD d) (v.getD u):=by
 cases a with
 |none=>exact(show v=none from h)▸rd
 |some m=>exact h.elim λz q=>q.1▸q.2
theorem Zkx(B:Beg c)(I:Inv c w σ Γ){l:List (MV×MV)}{g:Str->Option Value}{d:Addr}(hm:w.s.heap.MapOf (strKind c.prog c.w) d g)(ht:ZOj c.P w.Z l g)(lo:(d==sysModules)=false){os:List OV}{vs:List Value}(h:Zfr l os=some o)(r:RepFs c.P w.Z (os.map OV.frz) vs)(H:Ans c σ Γ o Qv):
  wpAny c.M c.A (call (.builtin "dict.get") (.ref d::vs)) Qv Ev w.s:=by
 cases os with
 |nil=>exact ns h
 |cons k os=>
  refine Zh h λkx e h=>r.cons_e (G:=λvs=>wpAny c.M c.A (call (.builtin "dict.get") (.ref d::vs)) Qv Ev w.s) λv ws rk rr=>(Zjz e▸rk:RepF c.P w.Z (.str kx) v).str_e (G:=λv=>wpAny c.M c.A (call (.builtin "dict.get") (.ref d::v::ws)) Qv Ev w.s) λt=>?_
  cases os with
  |nil=>
   cases h
   exact rr.nil_e (G:=λws=>wpAny c.M c.A (call (.builtin "dict.get") (.ref d::.str kx t::ws)) Qv Ev w.s) (call_meetsIn PySem.F.slot_dict_get hm.typeIs PySem.F.entry_dict_get (PySem.F.args_dict_get_2 _ _) (meets_dict_get (strKind c.prog c.w) d (strKind_is c.prog c.w kx t) lo) ⟨g,hm,I.ans B H (λ_ _ e=>e) ((ht kx).getD rfl)⟩)
  |cons dv os=>
   cases os with
   |cons _ _=>exact ns h
   |nil=>
    cases h
    exact rr.cons_e (G:=λws=>wpAny c.M c.A (call (.builtin "dict.get") (.ref d::.str kx t::ws)) Qv Ev w.s) λv2 ws2 r2 r0=>r0.nil_e (G:=λws2=>wpAny c.M c.A (call (.builtin "dict.get") (.ref d::.str kx t::v2::ws2)) Qv Ev w.s)
     (call_meetsIn PySem.F.slot_dict_get hm.typeIs PySem.F.entry_dict_get (PySem.F.args_dict_get_3 _ _ _) (meets_dict_get_default (strKind c.prog c.w) d (strKind_is c.prog c.w kx t) lo v2) ⟨g,hm,I.ans B H (λ_ _ e=>e) ((ht kx).getD r2)⟩)
theorem Jp{M:Model}{A:Around}{env:Env}{bn:String}{first:List Value}{es:List Expr}{s:Shared}(hs:es.any Zd=false)
  (h:wpAny M A (spliced (backTo pos (starEach es env))) (λvs s₁=>wpAny M A (call (.builtin bn) (first++vs)) Qv Ev s₁) Ev s):wpAny M A (callWith pos (.builtin bn) first (backTo pos (starEach es env)) []) Qv Ev s:=by
 cases es with
 |nil=>
  have h0:wpAny M A (call (.builtin bn) (first++[])) Qv Ev s:=λΓ p hΓ=>by
   have h1:=h Γ p hΓ
   rw[show spliced (backTo pos (starEach [] env))=pure []from rfl,Sem.wp_pure']at h1
   exact h1 Γ p hΓ
  exact Calls.callWith_builtin rfl (evalArgs_nil3 h0)
 |cons e r=>
  have h12:=Bool.or_eq_false_iff.mp (show(Zd e||r.any Zd)=false from hs)
  rw[Zz h12.1]at h⊢
  exact Calls.callWith_builtin (by show(false||(backTo pos (starEach r env)).any (·.1))=false;rw[Zic.plain_args h12.2];rfl) (evalArgs_plain h)
theorem ZMd(B:Blk c sc)(hf:∀e,OkE c E N e (f e)){args:List Expr}(hs:args.any Zd=false)(hn:args.length < 30)(hline:(ap.endLine==pos.line)=true)(hp:pth sc c.xs n b=some p):GV c E (eval (.Call (.Attribute b "get" ap) args [] pos) c.env) ((mg N (.get p (Xs f args))).e E):=λσ Q w Γ q I Qv Ev K R=>by
 obtain⟨ow,h1,q⟩:=Zo q
 obtain⟨vb,k⟩:=Yq B I hp h1
 cases ow with
 |f m=>
  cases m with
  |dct l=>
   have r:RepF c.P w.Z (.dct l) vb:=k.rd
   have go:=λ{Q E}=>k.go (tk:=w.s.toks) (Q:=Q) (E:=E)
   refine Xx (Zbx hp) hs hn hline (go λt pl=>?_)
   refine r.dct_e (G:=λv=>vb=v->wpAny c.M c.A (getMethod vb "get" pl) _ Ev {w.s with toks:=t}) (λd es k0 lo z1 rk e=>?_) rfl
   subst e
   have hm0:=RepK.map (c:=c) (I.iv.zok _ _ z1) rk
   refine getMethod_builtin (s:={w.s with toks:=t}) hm0.typeIs PySem.F.plainAttrs_dict PySem.F.slot_dict_get PySem.F.type_dict_get hm0.noDict (Jp hs (Ja (w:={w with s:={w.s with toks:=t}}) (Q:=λvs σ=>onS (λo=>Q o σ) (Zfr l vs)) hf hs q ((I.put r).tok B.toBeg t) (λw vs os σ hl _ q I=>?_) R))
   obtain⟨w',e,I,ra⟩:=I.frzs B.toBeg hl
   obtain⟨o,h,q⟩:=Zo q
   rw[<- e]
   have r:RepF c.P w'.Z (.dct l) (.ref d):=I.st.1
   refine r.dct_e (G:=λv=>.ref d=v->wpAny c.M c.A (call (.builtin "dict.get") (.ref d::vs)) Qv Ev w'.s) (λd' es k0 lo z1 rk e=>?_) rfl
   cases e
   exact Zkx B.toBeg I.pop (RepK.map (I.iv.zok _ _ z1) rk) (λx=>rk.find) lo h ra λw v I=>K w v o σ q I
  |_=>exact q.elim
 |_=>exact q.elim
end
end
section
open PySem.Calls
noncomputable def ZSt(e:Expr):Option Str:=match e with
 | .Constant c _ _=>(match c with| .str s=>some s|_=>none)
 |_=>none
noncomputable def Zri(e:Expr):Option MV:=match e with
 | .Constant c _ _=>(match c with| .str s=>some (.str s)| .int s=>some (.int s)|_=>none)
 |_=>none
noncomputable def Zcg:List (Option Expr)->List Expr->Option (List (MV×MV))
 | [],vs=>(match vs with| []=>some []|_=>none)
 |k::ks,vs=>(match vs with| []=>none|v::vs=>(k.bind ZSt).bind λs=>(Zri v).bind λm=>(Zcg ks vs).bind λl=>if l.length < 15/\(Zhx s l).isNone=true then some ((.str s,m)::l)else none)
theorem ZNi{e:Expr}{s:Str}(h:ZSt e=some s):∃k p,e=.Constant (.str s) k p:=by
 cases e with
 |Constant cst k p=>cases cst with
  |str i=>exact⟨k,p,by rw[Option.some.inj h]⟩
  |_=>exact ns h
 |_=>exact ns h
inductive ZHw:List (Option Expr)->List Expr->List (MV×MV)->Prop
 |nil:ZHw [] [] []
 |cons {s:Str} {kk:Nat} {p:Pos} {v:Expr} {ks:List (Option Expr)} {r:List Expr} {m:MV} {l:List (MV×MV)}:ZHw ks r l->Zri v=some m->l.length < 15->Zhx s l=none->ZHw (some (.Constant (.str s) kk p)::ks) (v::r) ((.str s,m)::l)
theorem Zrj{ks:List (Option Expr)}:∀{vs:List Expr} {l:List (MV×MV)},Zcg ks vs=some l->ZHw ks vs l:=by
 induction ks with
 |nil=>exactλ{vs l} h=>by cases vs with
  |nil=>cases h;exact .nil
  |cons _ _=>exact ns h
 |cons k ks ih=>exactλ{vs l} h=>by cases vs with
  |nil=>exact ns h
  |cons v r=>
   refine Zh (show(k.bind ZSt).bind _=some l from h) λs e1 h=>Zh h λm e2 h=>Zh h λl' e3 h=>?_
   obtain⟨q,rfl⟩:=Zak h
   refine Zh e1 λe ek e1=>?_
   obtain⟨kk,p,rfl⟩:=ZNi e1
   exact ek▸.cons (ih e3) e2 q.1 (Option.isNone_iff_eq_none.mp q.2)
section
variable{c:Cx}{sc:Sc}{E:Prop}{N:Nat}{e b:Expr}{x y:CE}{n:Nat}{f:Expr->CE}{w w':Wd}{v u vb:Value}{o:OV}{m:MV}{σ σ':Sg}{Γ:List En}{p:Pa}{l:List (MV×MV)}{Ev:Value->Shared->Prop}{ap pos:Pos}
theorem ZEj(h:Zri e=some m){env:Env}{M:Model}{A:Around}{s:Shared}{Q:Value->Shared->Prop}(H:∀u tk,(∀P Z,RepF P Z m u)->Q u {s with toks:=tk}):wpAny M A (eval e env) Q Ev s:=by
 cases e with
 |Constant cst k p=>cases cst with
  |str i=>cases(show some (MV.str i)=some m from h);exact wpAny_Constant_str (H _ _ λ_ _=>⟨_,rfl⟩)
  |int i=>cases(show some (MV.int i)=some m from h);exact wpAny_Constant_int (H _ _ λ_ _=>⟨_,rfl⟩)
  |_=>exact ns h
 |_=>exact ns h
theorem Zrg{ks:List (Option Expr)}{vs:List Expr}{l:List (MV×MV)}(h:ZHw ks vs l):ks.all (·.isSome)=true/\ks.length=vs.length/\ks.length=l.length/\l.length<=15:=by
 induction h with
 |nil=>exact⟨rfl,rfl,rfl,Nat.zero_le _⟩
 |cons _ _ q _ ih=>exact⟨by rw[List.all_cons,ih.1];rfl,congrArg (·+1) ih.2.1,congrArg (·+1) ih.2.2.1,q⟩
theorem Zgi{x k:Str}{v:Value}{r:List (Str×Value)}:valueAt ((k,v)::r) x=if k=x then some v else valueAt r x:=by
 unfold valueAt
 rw[List.find?_cons]
 by_cases h:k=x
 .simp[h]
 .simp[h]
theorem Zrh{env:Env}{prog:Program}{w:World}{A:Around}{pos:Pos}{ks:List (Option Expr)}{vs:List Expr}{l:List (MV×MV)}(h:ZHw ks vs l):∀{s:Shared} {Q:List (Value×Value)->Shared->Prop},
  (∀pvs tk,allStrKeys pvs=true->(∀P Z,ZOj P Z l (valueAt (strPairs pvs)))->((strPairs pvs).map (·.1)).Nodup->Q pvs {s with toks:=tk})->wpAny (model prog w) A (evalPairs (pairTrees ks vs env pos)) Q Ev s:=by
 induction h with
 |nil=>exactλH=>evalPairs_nil (H [] _ rfl (λP Z x=>rfl) List.nodup_nil)
 | @cons s kk p v ks r m l _ h2 _ h5 ih=>
  refineλH=>evalPairs_cons (wpAny_Constant_str (wpAny_bind (ZEj h2 λu tk ru=>wpAny_bind (wpAny_standAt (wpAny_pure ?_)))))
  refine ih λpvs tk2 a1 a2 a3=>H _ tk2 a1 (λP Z x=>?_) (List.nodup_cons.mpr ⟨λhm=>?_,a3⟩)
  .show Has P Z (if s=x then some m else Zhx x l) (valueAt ((s,u)::strPairs pvs) x)
   rw[Zgi]
   by_cases hx:s=x
   .rw[if_pos hx,if_pos hx];exact⟨u,rfl,ru P Z⟩
   .rw[if_neg hx,if_neg hx];exact a2 P Z x
  .obtain⟨q,hq,e⟩:=List.mem_map.mp hm
   have z:=a2 ⟨w.params,λ_ _=>True⟩ (λ_=>none) s
   rw[h5]at z
   exact List.find?_eq_none.mp (Option.map_eq_none_iff.mp (show valueAt (strPairs pvs) s=none from z)) q hq (beq_iff_eq.mpr e)
theorem Zoy(B:Base c)(k:∀b o,c.h₀.get? b=some o->w.s.heap.get? b=some o):(w.s.heap.objs.size==sysModules)=false:=by
 obtain⟨mg,mb,⟨o,_,_,hg,_⟩,_⟩:=B.glob
 have h:@LT.lt Nat instLTNat 3 w.s.heap.objs.size:=Heap.lt_size (k _ _ hg)
 exact beq_eq_false_iff_ne.mpr λq=>by
  have q:@Eq Nat w.s.heap.objs.size 1:=q
  exact absurd (q▸h) (by decide)
theorem ZLk(B:Blk c sc)(hf:∀e,OkE c E N e (f e)){ks:List (Option Expr)}{ws:List Expr}{dp:Pos}{args:List Expr}(hs:args.any Zd=false)(hn:args.length < 30)(hline:(ap.endLine==pos.line)=true)(hl:Zcg ks ws=some l)(h0:ks≠[]):GV c E (eval (.Call (.Attribute (.Dict ks ws dp) "get" ap) args [] pos) c.env) ((mg N (.lit l (Xs f args))).e E):=λσ Q w Γ q I Qv Ev K R=>by
 have hl:=Zrj hl
 obtain⟨a1,a2,a3,a4⟩:=Zrg hl
 refine Xx rfl hs hn hline (wpAny_Dict_walk (knd:=strKind c.prog c.w) a1 a2 h0 (Nat.le_trans (Nat.le_of_eq a3) a4) (Zrh hl λpvs tk b1 b2 b3=>display_done_str b1 b3 (Heap.DictOf.new w.s.heap) λh' hd hsb pl=>?_))
 have k:∀b o,w.s.heap.get? b=some o->h'.get? b=some o:=λb o e=>hsb.extBut b o (Nat.ne_of_lt (Heap.lt_size e)) (Heap.get?_push_of_some _ e)
 have lo:=Zoy B.toBase (I.iv.hh B.toBeg)
 have hm0:=hd.mapOf
 obtain⟨od,_,_,hod,_⟩:=id hd
 have I0:Inv c (grw w h' (tk+pvs.length) (λb=>b==w.s.heap.objs.size) (2*Γ.length+1,Zja)) σ (.it (λw' t=>w'.W w.s.heap.objs.size=some (t,Zja)/\w'.s.heap.DictOf (strKind c.prog c.w) w.s.heap.objs.size (strPairs pvs))::Γ):=
  I.pushE B.toBeg (.grow I.iv k (own:=λb=>b==w.s.heap.objs.size) (λb hb=>(eq_of_beq hb:b=w.s.heap.objs.size)▸⟨Zl _,od,hod⟩) _ _) ⟨λw1 w2 t t' _ _ kp h=>⟨(kp _ _ h.1).1,h.2.at λo ho=>(kp _ _ h.1).2.trans ho⟩,by show(bif _==_ then _ else _)=_;rw[beq_self_eq_true];rfl,hd⟩
 refine getMethod_builtin (s:={w.s with heap:=h',toks:=tk+pvs.length}) hm0.typeIs PySem.F.plainAttrs_dict PySem.F.slot_dict_get PySem.F.type_dict_get hm0.noDict (Jp hs (Ja (w:=grw w h' _ _ _) (Q:=λvs σ=>onS (λo=>Q o σ) (Zfr l vs)) hf hs q I0 (λw1 vs os σ hl _ q I=>?_) R))
 obtain⟨w',e,I,ra⟩:=I.frzs B.toBeg hl
 obtain⟨o,h,q⟩:=Zo q
 rw[<- e]
 exact Zkx B.toBeg I.pop I.st.1.2.2.mapOf (b2 c.P w'.Z) lo h ra λw v I=>K w v o σ q I
noncomputable def Zql(h:Heap)(L d:Addr):List (Addr×Obj):=(List.range h.objs.size).filterMap λa=>if a=L\/a=d then none else(h.get? a).map λo=>(a,o)
theorem Jv{h:Heap}{L d:Addr}{p:Addr×Obj}:p∈Zql h L d↔h.get? p.1=some p.2/\p.1≠L/\p.1≠d:=by
 unfold Zql
 rw[List.mem_filterMap]
 refine⟨λ⟨a,_,h1⟩=>?_,λ⟨h1,h2,h3⟩=>⟨p.1,List.mem_range.mpr (Heap.lt_size h1),by rw[if_neg (not_or.mpr ⟨h2,h3⟩),h1];rfl⟩⟩
 obtain⟨hn,h1⟩:=Zdh h1
 exact Zp h1 λo ho e=>e▸⟨ho,(not_or.mp hn).1,(not_or.mp hn).2⟩
theorem Zgr{s:Shared}(B:Base c)(k0:∀b o,c.h₀.get? b=some o->s.heap.get? b=some o){L:Addr}{m:Str->Option Value}(hns:s.heap.Ns L m){x d:Addr}{cl:Nat}{es:List DictEntry}{n:Nat}{a:Str}{v:Value}
  (h1:s.heap.get? x=some (instObj cl d))(h2:s.heap.get? d=some (dictOf es n))(hdL:d≠L)(ok:c.ok cl a)(hl:(getL a es).isSome=true)(hz:(putL a (PyData.keyHash c.w.params a) (.str a (s.toks+1)) v es).length<=1000)
  {Q:Unit->Shared->Prop}{E:Value->Shared->Prop}
  (h:∀h',h'.Ns L m->h'.get? d=some (dictOf (putL a (PyData.keyHash c.w.params a) (.str a (s.toks+1)) v es) (putN a es n))->(∀b o,b≠L->b≠d->s.heap.get? b=some o->h'.get? b=some o)->Q () {s with heap:=h',toks:=s.toks+2}):
  wpAny c.M c.A (setAttr (.ref x) a v) Q E s:=by
 obtain⟨g1,g2,g3,g4,g5,g6⟩:=B.attr cl a ok
 have none':∀b,({objs:=#[]}:Heap).get? b=none:=λb=>by
  cases q:({objs:=#[]}:Heap).get? b with
  |none=>rfl
  |some o=>exact absurd (Heap.lt_size q) (Nat.not_lt_zero _)
 have F:Fr ({objs:=#[]}:Heap) L s.heap m:=⟨hns,λb o e=>ns2 (none' b) e,Nat.zero_le _⟩
 have N:News ({objs:=#[]}:Heap) L s.heap (Zql s.heap L d++(d,dictOf es n)::[]):=λp hp=>by
  rcases List.mem_append.mp hp with hp|hp
  .exact⟨(Jv.mp hp).1,(Jv.mp hp).2.1,none' _⟩
  .exact List.mem_singleton.mp hp▸⟨h2,hdL,none' _⟩
 have X:c.K.In s.heap:=B.kin.keeps k0
 have I:InstAt s.heap x (instObj cl d) cl (some (dictOf es n)):=⟨h1,rfl,rfl,h2⟩
 refine set_plain X I g4 (osa_dict (s:={s with toks:=s.toks+1}) F N X I rfl g5 g6 g2 hl (λp hp=>(Jv.mp hp).2.2) (λp hp=>absurd hp List.not_mem_nil) (putName_dict _ _ _ _ _ _) rfl hz λh' F' N'=>?_)
 refine h h' F'.ns (N' (d,_) (List.mem_append.mpr (.inr List.mem_cons_self))).1 λb o hb hd e=>(N' (b,o) (List.mem_append.mpr (.inl (Jv.mpr ⟨e,hb,hd⟩)))).1
theorem Zkw(name:Str)(hsh:Int)(key v:Value):∀es:List DictEntry,(putL name hsh key v es).length<=es.length+1
 | []=>Nat.le_refl _
 |e::r=>by
  unfold putL
  split
  .exact Nat.le_succ _
  .exact Nat.succ_le_succ (Zkw name hsh key v r)
theorem RepOD.len{P:Px}{t cl:Nat}{fs:List (Str×OF)}:∀{es:List DictEntry},RepOD P w t cl fs es->es.length=fs.length:=by
 induction fs with
 |nil=>exactλ{es} x=>by rw[show es=[]from x];rfl
 |cons p r ih=>exactλx=>x.cons_e (G:=λes=>es.length=r.length+1) λe q _ _ _ _ h=>congrArg (·+1) (ih h)
theorem RepOD.getL{P:Px}{t cl:Nat}{a:Str}{fs:List (Str×OF)}{es:List DictEntry}(x:RepOD P w t cl fs es):(PySem.W.getL a es).isSome=true:=by
 cases h:fs.lookup a with
 |none=>rw[x.no h];rfl
 |some m=>exact(x.look h).elim λv q=>by rw[q.1];rfl
theorem RepOD.putL{P:Px}{t cl:Nat}{a:Str}{m:OF}{tok:Tok}(hok:P.ok cl a)(hz:w.Z.Sub w'.Z)(k:∀y,y≠a->Zum w w' (t,some y) (t,some y))(r':RepOF P w' t a m v){fs:List (Str×OF)}:∀{es:List DictEntry},RepOD P w t cl fs es->RepOD P w' t cl (Zlx a m fs) (PySem.W.putL a (PyData.keyHash P.params a) (.str a tok) v es):=by
 induction fs with
 |nil=>exactλ{es} x=>by rw[show es=[]from x];exact .cons ⟨⟨tok,rfl⟩,rfl⟩ hok r' (λy hy=>absurd hy List.not_mem_nil) rfl
 |cons p r ih=>
  rintro es ⟨e,q,rfl,h1,h2,h3,h4,h5⟩
  obtain⟨⟨t',hk⟩,hh⟩:=id h1
  unfold Zlx PySem.W.putL
  rw[hk]
  by_cases h0:p.1=a
  .rw[if_pos h0,if_pos (by rw[h0];simp[Value.isStr])]
   subst h0
   have rest:∀{r:List (Str×OF)} {q},(∀y∈r,y.1≠p.1)->RepOD P w t cl r q->RepOD P w' t cl r q:=λ{r}=>by
    induction r with
    |nil=>exactλ_ h=>h
    |cons y r ih=>
     rintro q hn ⟨e,q,rfl,h1,h2,h3,h4,h5⟩
     exact .cons h1 h2 (h3.keep hz (k _ (hn y List.mem_cons_self))) h4 (ih (λz hz=>hn z (List.mem_cons_of_mem _ hz)) h5)
   exact .cons ⟨⟨t',rfl⟩,hh⟩ h2 r' h4 (rest h4 h5)
  .rw[if_neg h0,if_neg (by simp[Value.isStr,h0])]
   exact .cons h1 h2 (h3.keep hz (k _ h0)) (Zhq (Ne.symm h0) h4) (ih h5)
end
end
section
open PySem.Calls
noncomputable abbrev GG(c:Cx)(E:Prop)(t:Expr)(T:OV->Sg->(Sg->Prop)->Prop):Prop:=∀⦃o:OV⦄ ⦃σ:Sg⦄ ⦃K:Sg->Prop⦄ ⦃w:Wd⦄ ⦃Γ:List En⦄ ⦃v:Value⦄,T o σ K->Inv c w σ (.o o v::Γ)->NoAl Γ->∀⦃Q:Unit->Shared->Prop⦄ ⦃Ev:Value->Shared->Prop⦄,(∀w' σ',K σ'->Inv c w' σ' Γ->Q () w'.s)->Er c E Ev->wpAny c.M c.A (PySem.assign t c.env v) Q Ev w.s
noncomputable def rtf(w:Wd)(f:Tg->Tg):Wd:={w with W:=λa=>(w.W a).map f}
section
variable{c:Cx}{sc:Sc}{E:Prop}{N:Nat}{e b t:Expr}{x y:CE}{n j cl:Nat}{f:Expr->CE}{w w':Wd}{v u vb:Value}{o:OV}{m:MV}{σ σ':Sg}{Γ:List En}{X:Nat->Prop}{Q:Unit->Shared->Prop}{Ev:Value->Shared->Prop}{p q pos:Pos}{a z:Str}{fs:List (Str×OF)}{K:Sg->Prop}
theorem Zpl{f:Tg->Tg}{a:Addr}{s:Nat}{x:Option Str}(e:w.W a=some (s,x)):(rtf w f).W a=some (f (s,x)):=by
 show(w.W a).map f=_
 rw[e];rfl
theorem Stp.rtf{f:Tg->Tg}(I:Iv c w)(h:∀q,¬X q.1->f q=q):Stp c X w (rtf w f):=by
 have no:∀{a},(Mine.rtf w f).W a≠none->w.W a≠none:=λh z=>h (congrArg (Option.map f) z)
 exact⟨λa y e _=>.inl e,λ_ _ e=>e,λa y e=>I.zok a y e,λa y e=>.inl e,λa e=>I.wz a (no e),λa e=>.inl (no e),λs hs b x e=>⟨(Zpl e).trans (congrArg some (h _ hs)),rfl⟩,rfl,rfl,rfl,rfl⟩
theorem Inv.frm(B:Blk c sc)(I:Inv c w σ Γ){h:Heap}(hs:Heap.SameBut c.env.locals w.s.heap h)(hns:h.Ns c.env.locals w.m):Inv c {w with s:={w.s with heap:=h}} σ Γ:=by
 have dX:c.env.locals∈c.X:=List.mem_cons_self
 have fr:=I.iv.free B.toBeg (.inl (Cx.X_D dX))
 have kp:∀{a y},a≠c.env.locals->w.s.heap.get? a=some y->h.get? a=some y:=λ{a y} n e=>hs.extBut a y n e
 have nz:∀{a y},w.Z a=some y->a≠c.env.locals:=λe q=>ns2 fr.1 (q▸e)
 have nw:∀{a},w.W a≠none->a≠c.env.locals:=λe q=>e (q▸fr.2)
 have zok:∀a o,w.Z a=some o->h.get? a=some o:=λa o e=>kp (nz e) (I.iv.zok a o e)
 have Kp:∀t,Zun w {w with s:={w.s with heap:=h}} t t:=λt b y e=>⟨e,(I.iv.wz b (Ze e)).2.elim λo q=>(kp (nw (Ze e)) q).trans q.symm⟩
 obtain⟨o1,es,ep,ho,hd,hr⟩:=id hns
 have ho':h.get? c.env.locals=some o1:=ho
 refine⟨⟨λa o e q dn=>?_,I.iv.zsub,zok,I.iv.znew,λa e=>⟨(I.iv.wz a e).1,(I.iv.wz a e).2.elim λo q=>⟨o,kp (nw e) q⟩⟩,I.iv.wnew,hns,λy a hy=>Yi (I.iv.cl y a hy) λo ho=>⟨o,kp (λq=>?_) ho,rfl⟩,λa ha=>?_,λe he=>⟨(I.iv.frs e he).1,(I.iv.frs e he).2.elim λL q=>q.elim λo q=>?_⟩,I.iv.os,I.iv.gens,I.iv.pin⟩,λi o e=>(I.en i o e).elim λu z=>⟨u,z.1,RepO.keep (w:=w) (w':={w with s:={w.s with heap:=h}}) (λ_ _ e=>e) (Kp _) z.2⟩,StOk.keep (w:=w) (w':={w with s:={w.s with heap:=h}}) (λ_ _ e=>e) zok Kp (λ_ _ _ h=>h) I.st⟩
 .have ne:a≠c.env.locals:=λz=>dn (z▸dX)
  exact(I.iv.kept a o e q dn).imp (kp ne) λz=>⟨z.1,z.2.elim λsl z=>⟨sl,kp ne z⟩⟩
 .obtain⟨o,_,_,ho,hd,_⟩:=I.iv.ns
  obtain⟨o',ho',hd'⟩:=I.iv.cl _ _ hy
  rw[q,ho]at ho';cases ho';rw[hd]at hd';cases hd'
 .by_cases q:a=c.env.locals
  .exact⟨o1,q▸ho'⟩
  .exact(I.iv.dd a ha).elim λo z=>⟨o,kp q z⟩
 .by_cases z:L=c.env.locals
  .exact⟨L,o1,q.1,z▸ho',λvs=>by rw[hd];nofun⟩
  .exact⟨L,o,q.1,kp z q.2.1,q.2.2⟩
theorem Zpi(B:Blk c sc)(na:NoAl Γ){z:Str}(F:OF)(hz:nth c.xs j=some z)(hk:Zni (sc.lookup z)=true)(h1:nth σ j=some (some (.o cl fs)))(ok:TT.plain cl a=true)(hlen:fs.length < 100)(I:Inv c w σ (.o F.ov v::Γ))(H:∀w',Inv c w' (put σ j (some (.o cl (Zlx a F fs)))) Γ->Q () w'.s):
  wpAny c.M c.A (PySem.assign (.Attribute (.Name z p) a q) c.env v) Q Ev w.s:=by
 let fn:Tg->Tg:=λq=>if q.1=2*Γ.length+1 then(2*j,some a)else q
 have S1:Stp c (Up Γ.length) w (rtf w fn):=.rtf I.iv λq h=>if_neg λe=>h ⟨_,Nat.le_refl _,e⟩
 have I1:=I.pop.next B.toBeg S1
 have r:RepOF c.P (rtf w fn) (2*j) a F v:=by
  have r:=I.st.1
  cases F with
  |f m=>exact r
  |l l=>exact RepL.e (G:=λv=>RepL c.P (rtf w fn) (2*j) (some a) l v) r λx vs n z g rs h=>⟨x,vs,n,rfl,(Zpl z).trans (congrArg some (if_pos rfl)),g,rs,h⟩
 obtain⟨u,k1,k2⟩:=I1.en j _ h1
 refine k2.o_e (G:=λu=>c.vl (rtf w fn) j=some u->wpAny c.M c.A (PySem.assign (.Attribute (.Name z p) a q) c.env v) Q Ev w.s) (λxa d es n y1 y2 z1 z2 rd k1=>?_) k1
 have no:∀{b:Addr},(rtf w fn).W b≠none->b≠c.env.locals:=λe q=>e (q▸(I1.iv.free B.toBeg (.inl Cx.locals_D)).2)
 have dL:=no (Ze y2)
 have xd:xa≠d:=λe=>by
  rw[e]at z1
  cases(congrArg Obj.data (Option.some.inj (z1.symm.trans z2)))
 rw[PySem.assign_Attribute]
 refine wpAny_bind (wpAny_holding (Xr (w:=rtf w fn) (tk:=w.s.toks) B I1.iv hz hk k1 (wpAny_bind (wpAny_standAt (wpAny_bind (wpAny_holding ?_))))))
 refine Zgr B.toBase (I1.iv.hh B.toBeg) I1.iv.ns z1 z2 dL (B.plain cl a ok) rd.getL ?_ λh' hns hd' hk=>wpAny_release ?_
 .exact Nat.le_trans (Zkw ..) (Nat.le_trans (Nat.succ_le_succ (Nat.le_of_eq rd.len)) (Nat.le_trans hlen (by decide)))
 obtain⟨oL,esL,epL,hoL,hdL,_⟩:=id hns
 obtain⟨oM,_,_,hoM,_⟩:=I1.iv.ns
 have g1:(w.s.heap.update c.env.locals λ_=>oL).get? c.env.locals=some oL:=Heap.get?_update_self _ hoM (by obtain⟨_,_,_,_⟩:=oL;cases hdL;rfl)
 have g2:∀b,b≠c.env.locals->(w.s.heap.update c.env.locals λ_=>oL).get? b=w.s.heap.get? b:=λb hb=>Heap.get?_update_other _ _ (Ne.symm hb)
 have I2:=I1.frm B (h:=w.s.heap.update c.env.locals λ_=>oL) (Heap.SameBut.update ..) (Xp hns λo e=>⟨o,(Option.some.inj (hoL.symm.trans e))▸g1,rfl⟩)
 have kk:∀b o,b≠d->(w.s.heap.update c.env.locals λ_=>oL).get? b=some o->h'.get? b=some o:=λb o nb e=>by
  by_cases q:b=c.env.locals
  .subst q;exact(Option.some.inj (g1.symm.trans e))▸hoL
  .exact hk b o q nb ((g2 b q).symm.trans e)
 let w2:Wd:={rtf w fn with s:={w.s with heap:=w.s.heap.update c.env.locals λ_=>oL}}
 let w3:Wd:={rtf w fn with s:={w.s with heap:=h',toks:=w.s.toks+2}}
 have S3:Stp c (·=2*j) w2 w3:=.upd (w:=w2) I2.iv (wr:=(·=d)) (λb hb=>⟨_,hb▸y2,rfl⟩) kk (λb hb=>⟨_,hb▸hd'⟩) (λ_ _ e=>e) λ_ _ e=>.inl e
 have kO:∀b q,b≠d->w2.W b=some q->w3.s.heap.get? b=w2.s.heap.get? b:=λb q nb e=>(I2.iv.wz b (Ze e)).2.elim λo y=>(kk b o nb y).trans y.symm
 have rd2:RepOD c.P w3 (2*j) cl (Zlx a F fs) _:=rd.putL (w:=rtf w fn) (w':=w3) (tok:=w.s.toks+1) (B.plain cl a ok) (λ_ _ e=>e) (λy hy b e=>⟨e,?_⟩) (r.keep (w:=rtf w fn) (w':=w3) (λ_ _ e=>e) λb e=>⟨e,?_⟩)
 .refine H w3 (I2.turn B S3 (EnvS.set (o:=.o cl (Zlx a F fs)) S3 Zdm I2.en (v:=.ref xa) k1 ⟨xa,d,_,_,rfl,y1,y2,?_,hd',rd2⟩))
  exact hk xa _ (no (Ze y1)) xd z1
 .have e:w2.W b=_:=e
  have nb:b≠d:=λq=>by rw[q]at e;cases e.symm.trans y2
  exact(kO b _ nb e).trans (g2 b (no (Ze e)))
 .have e:w2.W b=_:=e
  have nb:b≠d:=λq=>by rw[q]at e;cases e.symm.trans y2
  exact(kO b _ nb e).trans (g2 b (no (Ze e)))
theorem ZCd(B:Blk c sc)(na:NoAl Γ){z:Str}(hz:nth c.xs j=some z)(hk:Zni (sc.lookup z)=true)(h:ZOt j a o σ K)(I:Inv c w σ (.o o v::Γ))(H:∀w' σ',K σ'->Inv c w' σ' Γ->Q () w'.s):wpAny c.M c.A (PySem.assign (.Attribute (.Name z p) a q) c.env v) Q Ev w.s:=by
 obtain⟨ow,h1,h⟩:=Zo h
 have h1:=Zjg h1
 cases ow with
 |f _=>exact h.elim
 |l _=>exact h.elim
 |o cl fs=>
  obtain⟨hp,h⟩:=Zfe h
  obtain⟨hp,hl⟩:=Bool.and_eq_true_iff.mp hp
  obtain⟨σ',h3,hK⟩:=Zo h
  have go:∀{w:Wd} (F:OF),Ziz σ F.ov j a=some σ'->Inv c w σ (.o F.ov v::Γ)->wpAny c.M c.A (PySem.assign (.Attribute (.Name z p) a q) c.env v) Q Ev w.s:=λF h I=>Zpi B na F hz hk h1 hp (of_decide_eq_true hl) I λw' I=>H w' σ' (Yy hK) (by
   have e:Ziz σ F.ov j a=some (put σ j (some (.o cl (Zlx a F fs)))):=by
    unfold Ziz
    rw[h1]
    cases F <;> rfl
   exact Option.some.inj (e.symm.trans h)▸I)
  cases o with
  |f m=>exact go (.f m) h3 I
  |l l=>exact go (.l l) h3 I
  |o c2 f2=>exact go (w:=fz w _) (.f (OV.frz (.o c2 f2))) h3 (I.frz B.toBeg)
end
end
section
set_option backward.match.sparseCases true
open PySem.Calls
noncomputable def Zrx:Expr->Bool
 | .Name ..=>true
 | .Attribute ..=>true
 | .Subscript ..=>true
 | .Tuple ..=>true
 |_=>false
noncomputable def Xf:Expr->Bool
 | .ListComp ..=>false
 | .SetComp ..=>false
 | .DictComp ..=>false
 |_=>true
theorem Zu{e:Expr}{t:Option Expr}{k:Nat}{env:Env}(h:Xf e=true):swapsWith e t k env=pure false:=by
 cases e with
 |ListComp=>exact nf h
 |SetComp=>exact nf h
 |DictComp=>exact nf h
 |_=>rfl
theorem Yh{t e:Expr}{env:Env}(ht:Zrx t=true)(h:(Xv t&&Xv e)=false):swappedStores [t] e env=pure none:=by
 cases t with
 |Tuple=>cases e with
  |Tuple=>exact nf h.symm
  |_=>rfl
 |Name=>rfl
 |Attribute=>rfl
 |Subscript=>rfl
 |_=>exact nf ht
section
variable{c:Cx}{sc:Sc}{E:Prop}{N:Nat}{e b t:Expr}{x y:CE}{n i j:Nat}{f:Expr->CE}{w w':Wd}{v u vb:Value}{o:OV}{m:MV}{σ σ':Sg}{Γ:List En}{Q:Flow->Shared->Prop}{Ev:Value->Shared->Prop}{p q pos:Pos}{a z:Str}{ts es:List Expr}{os:List OV}{vs:List Value}
theorem Zft{M:Model}{A:Around}{env:Env}{s:Shared}(ht:Zrx t=true)(hs:swapsWith e (some t) pos.line env=pure false)(hw:swappedStores [t] e env=pure none)
  (h:wpAny M A (eval e env) (λv s₁=>wpAny M A (PySem.assign t env v) (λ_=>Q .next) Ev s₁) Ev s):wpAny M A (PySem.exec (.Assign [t] e pos) env) Q Ev s:=by
 rw[PyProof.Rows.exec_Assign]
 refine wpAny_bind (wpAny_standAt ?_)
 have hs':swapsWithSole [t] e pos.line env=pure false:=hs
 rw[hs']
 refine wpAny_bind (wpAny_pure ?_)
 rw[if_neg (by decide)]
 refine wpAny_bind (wpAny_mono h (λv s₁ h₁=>?_) λ_ _ x=>x)
 rw[hw]
 refine wpAny_bind (wpAny_pure ?_)
 have he:(assignEach [t] env).map (·.2)=[PySem.assign t env]:=by
  cases t with
  |Starred=>exact nf ht
  |_=>rfl
 rw[he]
 show wpAny M A (do assignAll v [PySem.assign t env];pure .next) Q Ev s₁
 exact wpAny_bind (wpAny_mono h₁ (λ_ _ x=>wpAny_pure x) λ_ _ x=>x)
theorem ZBt(B:Blk c sc)(h:tgt sc c.xs c.pn c.fix z=some i):GG c E (.Name z p) λo σ K=>(mg N (.tn i)).g o E σ K:=λo σ K w Γ v q I na Q Ev H R=>wpAny_assign_Name (Zas B I na (Zov h) λw' I=>H w' _ (Yy q) I)
theorem ZIp(B:Blk c sc)(h:pth sc c.xs n b=some (.v i))(hb:nmE b=some z):GG c E (.Attribute b a q) λo σ K=>(mg N (.tf i a)).g o E σ K:=λo σ K w Γ v h' I na Q Ev H R=>by
 obtain⟨pb,rfl⟩:=Zhe hb
 rcases Zwc h with h|⟨_,_,_,_,_,_,e,_⟩
 .obtain⟨x,pos',e,h⟩:=Zfg h
  cases e
  rcases Zki h with⟨_,_,_,e⟩|⟨j,q,hj,e⟩
  .cases e
  .cases e
   exact ZCd B na (Zhl hj) q h' I H
 .cases e
theorem ZPk(B:Blk c sc)(hh:c.A.handled=none){is:List Nat}(h:bdC sc c.xs c.pn c.fix t=some (.t is)):GG c E t λo σ K=>(mg N (.tt is)).g o E σ K:=λo σ K w Γ v q I na Q Ev H R=>by
 obtain⟨σ',h1,q⟩:=Zo (Ye q)
 exact Zjx (w:=fz w _) B hh h h1 (I.frz B.toBeg) na λw' I=>H w' σ' (Yy q) I
theorem Zza(ht:Zrx t=true)(hs:swapsWith e (some t) pos.line c.env=pure false)(hw:swappedStores [t] e c.env=pure none)(he:OkE c E N e x)(hg:GG c E t λo σ K=>(mg N y).g o E σ K):GS c E (PySem.exec (.Assign [t] e pos) c.env) ((mg N (.as y x)).s E):=λσ Q w Γ q I na Qf Ev K R=>
 Zft ht hs hw (he.v q I (λw v o σ q I=>hg q I na (λw σ q I=>K w .next _ σ q ⟨rfl,I⟩) R) R)
theorem ZNy(B:Blk c sc)(h:pth sc c.xs n b=some (.v i))(hb:nmE b=some z)(hp:pth sc c.xs n e=some (.v j))(he:Xv e=false)(hc:Xf e=true):GS c E (PySem.exec (.Assign [.Attribute b a q] e pos) c.env) ((mg N (.asN i a j)).s E):=λσ Q w Γ h' I na Qf Ev K R=>by
 obtain⟨ow,h1,h'⟩:=Zo h'
 obtain⟨vb,k⟩:=Yq (p:=.v j) B I hp h1
 refine Zft rfl (Zu hc) (Yh rfl (by rw[he];rfl)) (k.go (tk:=w.s.toks) λtk=>?_)
 have G:=ZIp (E:=E) (N:=N) (a:=a) (q:=q) B h hb
 cases ow with
 |f m=>exact G (w:={w with s:={w.s with toks:=tk}}) (o:=.f m) h' ((I.put k.rd).tok B.toBeg tk) na (λw σ q I=>K w .next _ σ q ⟨rfl,I⟩) R
 |o _ _=>exact h'.elim
 |l vs=>
  have I':Inv c w σ ([]++.al j vb::Γ):=⟨I.iv,I.en,k.pv,I.st⟩
  exact G (w:={rtg w _ _ with s:={w.s with toks:=tk}}) (o:=.l vs) (Yy h') ((I'.take B (Zjg h1)).tok B.toBeg tk) na (λw σ q I=>K w .next _ σ q ⟨rfl,I⟩) R
theorem Zsw(B:Blk c sc):c.env.blockKind=.function:=by
 unfold Env.blockKind
 rw[B.kf];rfl
noncomputable def Zmt(sc:Sc)(ts vs:List Expr):Option (Option (List Str)):=
 if !(ts.length==2||ts.length==3)||vs.length != ts.length then some none
 else if vs.any Zd then some none
 else
  let line:=(ts.head?.map (·.pos.line)).getD 0
  let names:=ts.filterMap λ
   | .Name id pos=>if sc.lookup id==some .local&&pos.line==line then some id else none
   |_=>none
  if names.length != ts.length||names.eraseDups.length != names.length then some none
  else if vs.all (foldedForSure 8)then some none
  else if vs.all (constantsAlone 8)then none
  else some (some names)
theorem Zdo(B:Blk c sc){k k2:Nat}{p p2:Pos}{sw:Option (List Str)}(h:Zmt sc ts es=some sw):swappedStores [.Tuple ts k p] (.Tuple es k2 p2) c.env=pure sw:=by
 unfold Zmt at h
 dsimp only at h
 show(if _ then _ else _:Sem _)=_
 rw[Zsw B,show c.env.kindOf=λx=>sc.lookup x from funext B.kind]
 rw[show(ScopeKind.function != ScopeKind.function)=false from rfl,Bool.or_false]
 by_cases h1:(!(ts.length==2||ts.length==3)||es.length != ts.length)=true
 .rw[if_pos h1]at h⊢
  cases h;rfl
 rw[if_neg h1]at h⊢
 by_cases h2:es.any Zd=true
 .rw[if_pos h2]at h
  cases h
  exact if_pos h2
 rw[if_neg h2]at h
 refine(if_neg h2).trans ?_
 split at h
 .rename_i h3
  cases h
  exact if_pos h3
 rename_i h3
 refine(if_neg h3).trans ?_
 split at h
 .rename_i h4
  cases h
  exact if_pos h4
 rename_i h4
 refine(if_neg h4).trans ?_
 obtain⟨h5,h⟩:=Zdh h
 cases h
 exact if_neg h5
theorem Znw{A:Around}{env:Env}{k k2:Nat}{p p2 pos:Pos}{s:Shared}(hw:swappedStores [.Tuple ts k p] (.Tuple es k2 p2) env=pure none)
  (h:wpAny c.M A (spliced (backTo p2 (starEach es env))) (λvs s₁=>wpAny c.M A (newTuple vs) (λv s₂=>wpAny c.M A (PySem.assign (.Tuple ts k p) env v) (λ_=>Q .next) Ev s₂) Ev s₁) Ev s):wpAny c.M A (PySem.exec (.Assign [.Tuple ts k p] (.Tuple es k2 p2) pos) env) Q Ev s:=Assign_Tuple (Tuple_ h) rfl hw
theorem Znv{A:Around}{env:Env}{k k2:Nat}{p p2 pos:Pos}{s:Shared}{names:List Str}(hw:swappedStores [.Tuple ts k p] (.Tuple es k2 p2) env=pure (some names))
  (h:wpAny c.M A (spliced (backTo p2 (starEach es env))) (λvs s₁=>wpAny c.M A (newTuple vs) (λv s₂=>wpAny c.M A (unpackItems v names.length none) (λitems s₃=>wpAny c.M A (assignInOrder (names.reverse.map λn=>bindName env n) items.reverse) (λ_=>Q .next) Ev s₃) Ev s₂) Ev s₁) Ev s):wpAny c.M A (PySem.exec (.Assign [.Tuple ts k p] (.Tuple es k2 p2) pos) env) Q Ev s:=Assign_Tuple_swapped (Tuple_ h) rfl hw
theorem NoAl.zip(na:NoAl Γ):∀{os:List OV} {vs:List Value},NoAl (List.zipWith En.o os vs++Γ):=λ{os}=>by
 induction os with
 |nil=>exact na
 |cons o os ih=>exactλ{vs}=>by cases vs with
  |nil=>exact na
  |cons v vs=>exact ih.cons_o
theorem Zvp(B:Blk c sc)(na:NoAl Γ){Q:Unit->Shared->Prop}(H:∀w',Inv c w' σ' Γ->Q () w'.s){ns:List Str}:∀{is:List Nat} {os:List OV} {vs:List Value} {σ:Sg} {w:Wd},ns.map (tgt sc c.xs c.pn c.fix)=is.map some->Zvq is os σ=some σ'->vs.length=os.length->Inv c w σ (List.zipWith En.o os vs++Γ)->
  wpAny c.M c.A (assignInOrder (ns.map λn=>bindName c.env n) vs) Q Ev w.s:=by
 induction ns with
 |nil=>
  intro is os vs σ w h e hl I
  cases is with
  |cons _ _=>cases h
  |nil=>cases os with
   |cons _ _=>exact Mine.ns e
   |nil=>
    cases e
    cases List.eq_nil_of_length_eq_zero hl
    exact wpAny_pure (H w I)
 |cons z ns ih=>
  intro is os vs σ w h e hl I
  cases is with
  |nil=>cases h
  |cons i is=>cases os with
   |nil=>exact Mine.ns e
   |cons o os=>cases vs with
    |nil=>exact Nat.noConfusion hl
    |cons v vs=>
     obtain⟨h1,h2⟩:=List.cons.inj (h:tgt sc c.xs c.pn c.fix z::_=some i::is.map some)
     exact wpAny_bind (wpAny_holding (wpAny_bindName (Zas B I na.zip (Zov h1) λw' I=>ih h2 e (Nat.succ.inj hl) I)))
theorem ZNu(B:Blk c sc)(hh:c.A.handled=none)(hf:∀e,OkE c E N e (f e)){k k2:Nat}{p p2 pos:Pos}{names:List Str}{is:List Nat}(hst:es.any Zd=false)(hl:es.length<=Zb)(hn:names.length=es.length)(hw:Zmt sc ts es=some (some names))(hi:names.reverse.map (tgt sc c.xs c.pn c.fix)=is.map some):
  GS c E (PySem.exec (.Assign [.Tuple ts k p] (.Tuple es k2 p2) pos) c.env) ((mg N (.asX is (Xs f es))).s E):=λσ Q w Γ q I na Qf Ev K R=>
 Znv (Zdo B hw) (Ja (Q:=λvs σ=>onS (λσ=>stK σ (Q .next)) (Zvq is vs.reverse σ)) hf hst q I (λw vs os σ hv ho q I=>by
  obtain⟨σ',h,q⟩:=Zo q
  have hsz:vs.length<=10000:=by rw[hv,ho];exact hl
  refine wpAny_newTuple ?_ (Nat.le_trans hsz ten)
  rw[show names.length=vs.toArray.size by rw[List.size_toArray,hv,ho,hn]]
  refine wpAny_unpackItems_tuple hh (items:=vs.toArray) ⟨_,Heap.get?_push_size _ rfl,rfl,_,rfl⟩ λh₂ hx=>?_
  have I2:=I.junk B.toBeg (h':=h₂) (λb o e=>hx b o (λq=>by
   rw[q,Heap.size_push]at e
   exact absurd (Heap.lt_size e) (Nat.not_lt.mpr (Nat.le_succ _))) (Heap.get?_push_of_some _ e)) w.s.toks
  refine Zvp (w:={w with s:={w.s with heap:=h₂,toks:=w.s.toks}}) (Q:=λ_ s=>Qf .next s) (os:=os.reverse) (vs:=vs.toArray.toList.reverse) B na (λw' I=>K w' .next _ σ' (Yy q) ⟨rfl,I⟩) hi h (by simp[hv]) ?_
  rw[show vs.toArray.toList=vs from rfl,<- List.reverse_zipWith hv.symm]
  exact I2) R)
noncomputable def ZIo(g:Expr->CE):List Expr->CE
 | []=>.nil
 |t::r=>.cons (g t) (ZIo g r)
theorem Zml{t:Expr}{ts:List Expr}{env:Env}(h:Zd t=false):assignEach (t::ts) env=(false,PySem.assign t env)::assignEach ts env:=by
 cases t with
 |Starred _ _=>exact nf h.symm
 |_=>rfl
theorem Zuc{env:Env}{ts:List Expr}:ts.any Zd=false->(assignEach ts env).length=ts.length/\(assignEach ts env).findIdx? (·.1)=none:=by
 induction ts with
 |nil=>exactλ_=>⟨rfl,rfl⟩
 |cons t ts ih=>
  intro h
  have h:=Bool.or_eq_false_iff.mp (show(Zd t||ts.any Zd)=false from h)
  rw[Zml h.1]
  exact⟨congrArg (·+1) (ih h.2).1,by rw[List.findIdx?_cons,(ih h.2).2];rfl⟩
theorem ZFu{s l:Nat}(hk:∀j j',l<=j->j+j'=s->Zun w w' (2*j+1) (2*j'+1))(hz:w.Z.Sub w'.Z){Δ:List En}(hd:StOk c w' Δ):∀{os:List OV} {vs:List Value} {Γ:List En},vs.length=os.length->l<=Γ.length->Γ.length+Δ.length+os.length=s+1->StOk c w (Zdj os vs++Γ)->StOk c w' (List.zipWith En.o os vs++Δ):=λ{os}=>by
 induction os with
 |nil=>exactλ{vs Γ} _ _ _ _=>hd
 |cons o os ih=>exactλ{vs Γ} hv hl hs h=>by cases vs with
  |nil=>exact hd
  |cons v vs=>
   rw[Yf]at h
   refine⟨RepO.keep hz (hk _ _ hl ?_) h.low.1,ih (Γ:=.o o v::Γ) (Nat.succ.inj hv) (Nat.le_succ_of_le hl) ?_ h⟩
   .refine(show _=Γ.length+(List.zipWith En.o os vs++Δ).length from rfl).trans ?_
    rw[List.length_append,List.length_zipWith,Nat.succ.inj hv,Nat.min_self,Nat.add_comm os.length,<- Nat.add_assoc]
    exact Nat.succ.inj hs
   .exact(by rw[List.length_cons,Nat.succ_add,Nat.succ_add];rfl:_=Γ.length+Δ.length+(os.length+1)).trans hs
theorem ZMp{j j' n:Nat}(h:n=j+j'+1):2*n - (2*j+1)=2*j'+1:=Nat.sub_eq_of_eq_add (by
 rw[h,Nat.mul_add,Nat.mul_add,Nat.add_comm (2*j)]
 exact congrArg Nat.succ (Nat.add_right_comm _ _ _))
theorem Inv.flip(B:Beg c){os:List OV}{vs:List Value}(hv:vs.length=os.length)(I:Inv c w σ (Zdj os vs++Γ)):∃f,Inv c (rtf w f) σ (List.zipWith En.o os vs++Γ):=by
 let f:Tg->Tg:=λq=>if 2*Γ.length+1<=q.1/\q.1 % 2=1 then(2*(2*Γ.length+os.length) - q.1,q.2)else q
 have S:Stp c (Up Γ.length) w (rtf w f):=.rtf I.iv λq h=>if_neg λe=>h (.odd e)
 have I':Inv c (rtf w f) σ Γ:=Inv.next B ⟨I.iv,I.en,I.st.low⟩ S
 cases os with
 |nil=>exact⟨f,I'⟩
 |cons o os=>
  exact⟨f,I'.iv,I'.en,ZFu (w:=w) (w':=rtf w f) (s:=2*Γ.length+os.length) (l:=Γ.length) (Γ:=Γ) (λj j' hj hs b x e=>⟨(Zpl e).trans (congrArg some ((if_pos (Zzz hj)).trans (congrArg (·,x) (ZMp (congrArg (·+1) hs).symm)))),rfl⟩) (λ_ _ e=>e) I'.st hv (Nat.le_refl _) (by rw[Nat.two_mul];rfl) I.st⟩
theorem ZGc{g:Expr->CE}(hg:∀t,GG c E t λo σ K=>(mg N (g t)).g o E σ K)(na:NoAl Γ){Q:Unit->Shared->Prop}{K:Sg->Prop}(H:∀w' σ',K σ'->Inv c w' σ' Γ->Q () w'.s)(R:Er c E Ev){ts:List Expr}:∀{os:List OV} {vs:List Value} {σ:Sg} {w:Wd},ts.any Zd=false->(mg N (ZIo g ts)).gs os E σ K->vs.length=os.length->Inv c w σ (List.zipWith En.o os vs++Γ)->
  wpAny c.M c.A (assignInOrder ((assignEach ts c.env).map (·.2)) vs) Q Ev w.s:=by
 induction ts with
 |nil=>
  intro os vs σ w hs h hl I
  cases os with
  |cons _ _=>exact h.elim
  |nil=>
   obtain rfl:=List.eq_nil_of_length_eq_zero hl
   exact wpAny_pure (H w σ h I)
 |cons t ts ih=>
  intro os vs σ w hs h hl I
  have hs:=Bool.or_eq_false_iff.mp (show(Zd t||ts.any Zd)=false from hs)
  cases os with
  |nil=>exact h.elim
  |cons o os=>cases vs with
   |nil=>exact Nat.noConfusion hl
   |cons v vs=>
    rw[Zml hs.1]
    show wpAny c.M c.A (do holding vs (PySem.assign t c.env v);assignInOrder ((assignEach ts c.env).map (·.2)) vs) Q Ev w.s
    exact wpAny_bind (wpAny_holding (hg t h I na.zip (λw' σ' h I=>ih hs.2 h (Nat.succ.inj hl) I) R))
theorem ZNx(B:Blk c sc)(hh:c.A.handled=none)(hf:∀e,OkE c E N e (f e)){g:Expr->CE}(hg:∀t,GG c E t λo σ K=>(mg N (g t)).g o E σ K){k k2:Nat}{p p2 pos:Pos}(hst:es.any Zd=false)(hts:ts.any Zd=false)(hl:es.length<=Zb)(hn:ts.length=es.length)(hw:Zmt sc ts es=some none):
  GS c E (PySem.exec (.Assign [.Tuple ts k p] (.Tuple es k2 p2) pos) c.env) ((mg N (.asT (ZIo g ts) (Xs f es))).s E):=λσ Q w Γ q I na Qf Ev K R=>
 Znw (Zdo B hw) (Ja (Q:=λvs σ=>(mg N (ZIo g ts)).gs vs E σ (Q .next)) hf hst q I (λw vs os σ hv ho q I=>by
  obtain⟨r,I⟩:=I.flip B.toBeg hv
  have hsz:vs.length<=10000:=by rw[hv,ho];exact hl
  refine wpAny_newTuple ?_ (Nat.le_trans hsz ten)
  refine wpAny_assign_Tuple hh (items:=vs.toArray) ⟨_,Heap.get?_push_size _ rfl,rfl,_,rfl⟩ (by rw[(Zuc hts).1,List.size_toArray,hv,ho,hn]) (Zuc hts).2 λh₂ hx=>?_
  exact ZGc (w:={rtf w r with s:={w.s with heap:=h₂,toks:=w.s.toks}}) (Q:=λ_ s=>Qf .next s) hg na (λw' σ' k I=>K w' .next _ σ' k ⟨rfl,I⟩) R hts q hv (I.junk B.toBeg (h':=h₂) (λb o e=>hx b o (λq=>by
   rw[q,Heap.size_push]at e
   exact absurd (Heap.lt_size e) (Nat.not_lt.mpr (Nat.le_succ _))) (Heap.get?_push_of_some _ e)) w.s.toks)) R)
end
end
section
open PySem.Calls
structure Enter(c c':Cx)(w:Wd):Prop where
 s1:∀a o,w.s.heap.get? a=some o->w.W a=none->c'.s1.heap.get? a=some o/\c'.W1 a=none
 n1:∀a,c'.W1 a≠none->w.W a≠none\/w.s.heap.get? a=none
 n2:∀a,c'.s1.heap.get? a=none->w.s.heap.get? a=none
 z1:c'.Z1=w.Z
 x:∀a∈c'.X,w.s.heap.get? a=none
 fl:∀a∈c'.FL,a∈c.FL\/w.s.heap.get? a=none
 os:c'.s1.os=w.s.os
 gens:w.s.gens=#[]
section
variable{c c':Cx}{sc:Sc}{w w':Wd}{σ σ':Sg}{Γ:List En}
theorem leave(N:Enter c c' w)(I:Iv c' w'):Stp c (λ_=>True) w {w' with m:=w.m,cm:=w.cm}:=by
 have bk:∀{a},c'.W1 a≠none\/c'.s1.heap.get? a=none->w.W a≠none\/w.s.heap.get? a=none:=λh=>h.elim (N.n1 _) λh=>.inr (N.n2 _ h)
 refine⟨λa o e h=>?_,N.z1▸I.zsub,I.zok,λa o e=>(I.znew a o e).imp (λq=>N.z1▸q) bk,I.wz,λa h=>bk (I.wnew a h),λt h=>absurd trivial h,rfl,rfl,I.os.trans N.os,I.gens.trans N.gens.symm⟩
 exact(I.kept a o (N.s1 a o e h).1 (N.s1 a o e h).2 λq=>ns2 (N.x a q) e).imp id λq=>⟨(N.fl a q.1).resolve_right λz=>ns2 z e,q.2⟩
structure ZOk(c:Cx)(w:Wd)(C:Addr):Prop where
 z:w.Z C=none
 w:w.W C=none
 k:∀o,c.s1.heap.get? C=some o->c.W1 C=none->C∈c.X
 d:C ∉ c.D
 f:C ∉ c.FL
theorem Inv.stray(I:Inv c w σ Γ){C:Addr}(S:ZOk c w C){h:Heap}(hs:Heap.SameBut C w.s.heap h):Inv c {w with s:={w.s with heap:=h}} σ Γ:=by
 have kp:∀{a y},a≠C->w.s.heap.get? a=some y->h.get? a=some y:=λ{a y} n e=>hs.extBut a y n e
 have nw:∀{a},w.W a≠none->a≠C:=λe q=>e (q▸S.w)
 have zok:∀a o,w.Z a=some o->h.get? a=some o:=λa o e=>kp (λq=>ns2 S.z (q▸e)) (I.iv.zok a o e)
 have K:∀t,Zun w {w with s:={w.s with heap:=h}} t t:=λt b y e=>⟨e,(I.iv.wz b (Ze e)).2.elim λo q=>(kp (nw (Ze e)) q).trans q.symm⟩
 have nd:∀{a},a∈c.D->a≠C:=λh q=>S.d (q▸h)
 refine⟨⟨λa o e q dn=>?_,I.iv.zsub,zok,I.iv.znew,λa e=>⟨(I.iv.wz a e).1,(I.iv.wz a e).2.elim λo q=>⟨o,kp (nw e) q⟩⟩,I.iv.wnew,Xp I.iv.ns λo e=>⟨o,kp (nd Cx.locals_D) e,rfl⟩,λx a hx=>Yi (I.iv.cl x a hx) λo e=>⟨o,kp (nd (Cx.cell_D hx)) e,rfl⟩,λa ha=>(I.iv.dd a ha).elim λo e=>⟨o,kp (nd ha) e⟩,
  λe he=>⟨(I.iv.frs e he).1,(I.iv.frs e he).2.elim λL q=>q.elim λo q=>⟨L,o,q.1,kp (λz=>S.f (List.mem_filterMap.mpr ⟨e,he,z▸q.1⟩)) q.2.1,q.2.2⟩⟩,I.iv.os,I.iv.gens,I.iv.pin⟩,λi o e=>(I.en i o e).elim λu z=>⟨u,z.1,RepO.keep (w:=w) (w':={w with s:={w.s with heap:=h}}) (λ_ _ e=>e) (K _) z.2⟩,StOk.keep (w:=w) (w':={w with s:={w.s with heap:=h}}) (λ_ _ e=>e) zok K (λ_ _ _ h=>h) I.st⟩
 have ne:a≠C:=λz=>dn (z▸S.k o (z▸e) (z▸q))
 exact(I.iv.kept a o e q dn).imp (kp ne) λz=>⟨z.1,z.2.elim λsl z=>⟨sl,kp ne z⟩⟩
theorem Qn(B:Beg c)(I:Iv c w){C:Addr}(h:w.s.heap.get? C=none):(∀o,c.s1.heap.get? C=some o->c.W1 C=none->C∈c.X)/\C ∉ c.D/\C ∉ c.FL:=by
 refine⟨λo e q=>?_,λq=>(I.dd C q).elim λo e=>ns2 h e,λq=>?_⟩
 .refine Decidable.byContradiction λdn=>?_
  exact(I.kept C o e q dn).elim (λz=>ns2 h z) λz=>z.2.elim λ_ z=>ns2 h z
 .obtain⟨e,he,hf⟩:=List.mem_filterMap.mp q
  obtain⟨_,L,o,h2,h3,_⟩:=I.frs e he
  cases hf.symm.trans h2
  exact ns2 h h3
noncomputable def Xb(ns:Sc):List Str:=(ns.filter λp=>p.2==.free).map (·.1)
noncomputable def Zav(ns:Sc):List Str:=(ns.filter λp=>p.2==.local).map (·.1)
noncomputable def Zgt(sc ns:Sc):Sc:=ns.map λp=>if(p.2==.free&&sc.lookup p.1==some .cell)=true then(p.1,.cell)else p
noncomputable def Zff(sc:Sc)(s:Scope):Bool:=s.kind==.function&&!s.isGenerator&&!s.isCoroutine&&s.names.all λp=>p.1 != ("__debug__":Str)&&p.1 != ("__classdict__":Str)&&p.2 != .cell&&(p.2 != .local||s.names.lookup p.1==some .local)&&(p.2 != .free||(sc.lookup p.1==some .cell&&s.names.lookup p.1==some .free))
structure Zac(sc:Sc)(scope:Scope):Prop where
 kind:scope.kind=.function
 nm:∀p∈scope.names,(p.1==("__debug__":Str))=false/\(p.1==("__classdict__":Str))=false
 nocell:∀p∈scope.names,p.2≠.cell
 loc:∀p∈scope.names,p.2=.local->scope.names.lookup p.1=some .local
 free:∀p∈scope.names,p.2=.free->sc.lookup p.1=some .cell/\scope.names.lookup p.1=some .free
theorem Zne{scope:Scope}(h:Zff sc scope=true):Zac sc scope:=by
 unfold Zff at h
 simp only[Bool.and_eq_true,Bool.not_eq_true',List.all_eq_true,bne_iff_ne,ne_eq,Bool.or_eq_true,Decidable.not_not]at h
 obtain⟨⟨⟨h1,h2⟩,h3⟩,h4⟩:=h
 refine⟨eq_of_beq h1,λp hp=>⟨beq_eq_false_iff_ne.mpr (h4 p hp).1.1.1.1,beq_eq_false_iff_ne.mpr (h4 p hp).1.1.1.2⟩,λp hp=>(h4 p hp).1.1.2,λp hp hl=>eq_of_beq ((h4 p hp).1.2.resolve_left λq=>q hl),λp hp hl=>?_⟩
 exact((h4 p hp).2.resolve_left λq=>q hl).imp eq_of_beq eq_of_beq
theorem ZPb{α:Type}{x:Str}{v:α}{l:List (Str×α)}(h:l.lookup x=some v):(x,v)∈l:=Zj h
theorem Zsu{ns:Sc}{x:Str}:x∈Xb ns↔(x,NameKind.free)∈ns:=by
 unfold Xb
 rw[List.mem_map]
 refine⟨λ⟨p,hp,e⟩=>?_,λh=>⟨_,List.mem_filter.mpr ⟨h,rfl⟩,rfl⟩⟩
 obtain⟨h1,h2⟩:=List.mem_filter.mp hp
 have:p.2=.free:=eq_of_beq h2
 rw[<- e,<- this];exact h1
theorem Zbm{ns:Sc}{x:Str}:(Zgt sc ns).lookup x=(ns.lookup x).map λk=>if(k==.free&&sc.lookup x==some .cell)=true then NameKind.cell else k:=by
 induction ns with
 |nil=>rfl
 |cons p r ih=>
  have e1:∀q:Str×NameKind,(if(q.2==NameKind.free&&sc.lookup q.1==some .cell)=true then(q.1,NameKind.cell)else q)=(q.1,if(q.2==.free&&sc.lookup q.1==some .cell)=true then NameKind.cell else q.2):=λq=>by
   by_cases h:(q.2==NameKind.free&&sc.lookup q.1==some .cell)=true
   .rw[if_pos h,if_pos h]
   .rw[if_neg h,if_neg h]
  show List.lookup x ((if _ then _ else _)::_)=_
  rw[e1,List.lookup_cons,List.lookup_cons]
  cases h:x==p.1 with
  |true=>obtain rfl:=eq_of_beq h;rfl
  |false=>exact ih
noncomputable def Xh(env:Env):List (Str×NameKind)->List (Str×Addr)->List (Str×Addr)
 | [],cs=>cs
 |p::r,cs=>Xh env r (if(p.2==.free)=true then(p.1,(env.cells.lookup p.1).getD 0)::cs else cs)
theorem Ztq{env:Env}{names:List (Str×NameKind)}:∀{cs:List (Str×Addr)},(∀x∈names,x.2=.free->(env.cells.lookup x.1).isSome=true)->
  (forIn names cs λx r=>(if(x.2==NameKind.free)=true then do let a <- cellOf env x.1;pure (ForInStep.yield ((x.1,a)::r))else pure (ForInStep.yield r)):Sem (List (Str×Addr)))=pure (Xh env names cs):=by
 induction names with
 |nil=>exactλ_=>rfl
 |cons p r ih=>
  intro cs h
  rw[List.forIn_cons]
  have h':=λy hy=>h y (List.mem_cons_of_mem p hy)
  by_cases hk:(p.2==NameKind.free)=true
  .obtain⟨a,ha⟩:=Option.isSome_iff_exists.mp (h p List.mem_cons_self (eq_of_beq hk))
   rw[if_pos hk,show cellOf env p.1=pure a by unfold cellOf;rw[ha],pure_bind,pure_bind,Xh,if_pos hk,ha]
   exact ih h'
  .rw[if_neg hk,pure_bind,Xh,if_neg hk]
   exact ih h'
theorem Zeg{scope:Scope}{env:Env}(h:∀x∈scope.names,x.2=.free->(env.cells.lookup x.1).isSome=true):closureFor scope env=pure (Xh env scope.names []):=
 Eq.trans rfl (congrArg (λm=>(m >>=λr=>pure r:Sem _)) (Ztq (cs:=[]) h))
theorem Zeh{env:Env}{names:List (Str×NameKind)}:∀{cs:List (Str×Addr)},(∀x∈names,x.2=.free->(env.cells.lookup x.1).isSome=true)->(∀p∈cs,env.cells.lookup p.1=some p.2)->∀p∈Xh env names cs,env.cells.lookup p.1=some p.2:=by
 induction names with
 |nil=>exactλ_ hc=>hc
 |cons x r ih=>
  intro cs h hc
  unfold Xh
  refine ih (λy hy=>h y (List.mem_cons_of_mem _ hy)) ?_
  by_cases hk:(x.2==NameKind.free)=true
  .rw[if_pos hk]
   obtain⟨a,ha⟩:=Option.isSome_iff_exists.mp (h x List.mem_cons_self (eq_of_beq hk))
   exact List.forall_mem_cons.mpr ⟨by rw[ha];rfl,hc⟩
  .rw[if_neg hk];exact hc
theorem Zib{env:Env}{x:Str}{names:List (Str×NameKind)}:∀{cs:List (Str×Addr)},((x,NameKind.free)∈names\/(cs.lookup x).isSome=true)->((Xh env names cs).lookup x).isSome=true:=by
 induction names with
 |nil=>exactλh=>h.resolve_left List.not_mem_nil
 |cons p r ih=>
  intro cs h
  unfold Xh
  refine ih (h.elim (λh=>(List.mem_cons.mp h).symm.imp id λe=>?_) λh=>.inr ?_)
  .subst e
   rw[if_pos (show(NameKind.free==NameKind.free)=true from rfl),List.lookup_cons,beq_self_eq_true];rfl
  .by_cases hk:(p.2==NameKind.free)=true
   .rw[if_pos hk,List.lookup_cons]
    cases x==p.1 with
    |true=>rfl
    |false=>exact h
   .rw[if_neg hk];exact h
theorem Jx(B:Blk c sc){scope:Scope}(O:Zac sc scope):∀x∈scope.names,x.2=.free->(c.env.cells.lookup x.1).isSome=true:=λx hx hl=>B.kcell x.1 (O.free x hx hl).1
noncomputable def Cx.comp(c:Cx)(scope:Scope)(C:Addr)(s1:Shared)(Z1:Zf)(W1:Ow)(pins:Nat->Option Value)(pn:List Nat):Cx:=c.alt c.A (compEnvC scope (Xh c.env scope.names []) C c.env) c.l (Xb scope.names++Zav scope.names) s1 Z1 W1 true pins pn
theorem Zhz(B:Blk c sc){scope:Scope}(x:Str):Env.kindOf (compEnvC scope (Xh c.env scope.names []) 0 c.env) x=(Zgt sc scope.names).lookup x:=by
 show List.lookup x (scope.names.map _)=List.lookup x (scope.names.map _)
 refine congrArg (List.lookup x) (List.map_congr_left λp _=>?_)
 obtain⟨n,k⟩:=p
 show(if(k==.free&&c.env.scope.kind==.function&&c.env.kindOf n==some .cell)=true then _ else _)=_
 rw[B.kf,B.kind,show(ScopeKind.function==ScopeKind.function)=true from rfl,Bool.and_true]
theorem ZGo{scope:Scope}(O:Zac sc scope){x:Str}(h:(Zgt sc scope.names).lookup x=some .cell):(x,NameKind.free)∈scope.names:=by
 rw[Zbm]at h
 refine Zp h λk hk e=>?_
 have hm:=Zj hk
 by_cases q:(k==.free&&sc.lookup x==some .cell)=true
 .rw[<- show k=NameKind.free from eq_of_beq (Bool.and_eq_true_iff.mp q).1];exact hm
 .rw[if_neg q]at e;exact absurd e (O.nocell _ hm)
theorem Zyh(B:Blk c sc){scope:Scope}(O:Zac sc scope)(hnd:(Xb scope.names++Zav scope.names).Nodup){C:Addr}{s1:Shared}{Z1:Zf}{W1:Ow}{pins:Nat->Option Value}{pn:List Nat}(bg:Beg (c.comp scope C s1 Z1 W1 pins pn))(pp:∀i,pn.contains i=false->pins i=none):Blk (c.comp scope C s1 Z1 W1 pins pn) (Zgt sc scope.names):=
 {B.toBase.alt,bg with
  kf:=O.kind,eg:=B.eg,eb:=B.eb
  kind:=Zhz B
  kcell:=λx h=>Zib (.inl (ZGo O h))
  nm:=λx k h=>by
   rw[Zbm]at h
   exact Zp h λk hk _=>O.nm _ (Zj hk)
  nx:=hnd
  cd:=nofun
  pp:=pp}
end
end
section
open PySem.Calls
section
variable{c c':Cx}{sc:Sc}{w w':Wd}{σ σ':Sg}{Γ:List En}{E:Prop}{N n i j k:Nat}{x y z:CE}{ms res:List MV}{m:MV}{v:Value}{o:OV}{ia D C:Addr}{tup:Bool}{Ev:Value->Shared->Prop}
theorem Uz{R:Result->Shared->Prop}{elt target iter:Expr}{ifs:List Expr}{scope:Scope}{pos:Pos}{it acc:Value}{env:Env}{A:Around}{s:Shared}(I:Nat->Shared->Prop)
  (turn:∀n s,I n s->wpAny c.M A (pyNext it) (λr s₁=>match r with
   |none=>R (.ok .next) s₁
   |some v=>wpAny c.M A (letOwnedTupleGo target it v) (λ_ s₁=>wpAny c.M A (PySem.assign target env v) (λ_ s₂=>
     wpAny c.M A (forIn ifs true λc r=>if r=true then do let ok <- isTrue c env (eval c env);pure (ForInStep.yield ok)else pure (ForInStep.yield r)) (λok s₃=>
      if ok=true then wpAny c.M A (eval elt env) (λx s₄=>
       wpAny c.M A (call (.builtin "list.append") [acc,x]) (λ_ s₅=>∃m,m < n/\I m s₅) (notedBy c.M A env λe s'=>R (.error e) s') s₄) (notedBy c.M A env λe s'=>R (.error e) s') s₃
      else∃m,m < n/\I m s₃) (notedBy c.M A env λe s'=>R (.error e) s') s₂) (notedBy c.M A env λe s'=>R (.error e) s') s₁) (notedBy c.M A env λe s'=>R (.error e) s') s₁) (notedBy c.M A env λe s'=>R (.error e) s') s)
  (n:Nat)(h:I n s):codeAny c.M A (.compLoop (.ListComp elt [⟨target,iter,ifs,0⟩] scope pos) 0 it acc env) R s:=by
 refine codeAny_loop rfl I (λn s hI=>?_) n h
 show wpAny _ A ((compTurn (.ListComp elt [⟨target,iter,ifs,0⟩] scope pos) 0 it acc env).onRaise (λx=>do noteFrame x env;theTreesLotGoes x)) _ _ s
 refine wpAny_noted ?_
 rw[compTurn_list]
 refine wpAny_bind (wpAny_standAt (wpAny_bind (wpAny_mono (turn n s hI) (λr s₁ h₁=>?_) λ_ _ h'=>h')))
 cases r with
 |none=>exact wpAny_pure h₁
 |some v=>
  refine wpAny_bind (wpAny_mono h₁ (λ_ s₁' h₁'=>?_) λ_ _ h'=>h')
  refine wpAny_bind (wpAny_mono h₁' (λ_ s₂ h₂=>wpAny_bind (wpAny_mono h₂ (λok s₃ h₃=>?_) λ_ _ h'=>h')) λ_ _ h'=>h')
  cases ok with
  |false=>exact wpAny_pure ⟨rfl,h₃⟩
  |true=>
   exact wpAny_bind (wpAny_bind (wpAny_mono h₃ (λx s₄ h₄=>wpAny_bind (wpAny_mono h₄ (λ_ s₅ h₅=>wpAny_pure (wpAny_pure ⟨rfl,h₅⟩)) λ_ _ h'=>h')) λ_ _ h'=>h'))
noncomputable abbrev Zmg(ifs:List Expr)(env:Env):Sem Bool:=forIn ifs true λc r=>if r=true then do let ok <- isTrue c env (eval c env);pure (ForInStep.yield ok)else pure (ForInStep.yield r)
noncomputable def Ztn(f:Expr->CE):List Expr->CE
 | []=>.nil
 |e::r=>(match r with| []=>.so (f e)|_=>.bad)
noncomputable abbrev GB(c:Cx)(tree:Sem Bool)(T:Sg->(Bool->Sg->Prop)->Prop):Prop:=∀⦃σ:Sg⦄ ⦃Q:Bool->Sg->Prop⦄ ⦃w:Wd⦄ ⦃Γ:List En⦄,T σ Q->Inv c w σ Γ->∀⦃Qv:Bool->Shared->Prop⦄ ⦃Ev:Value->Shared->Prop⦄,(∀w' b σ',Q b σ'->Inv c w' σ' Γ->Qv b w'.s)->wpAny c.M c.A tree Qv Ev w.s
theorem ZGm{f:Expr->CE}(hf:∀e,OkE c False N e (f e)){ifs:List Expr}:GB c (Zmg ifs c.env) ((mg N (Ztn f ifs)).b):=λσ Q w Γ q I Qv Ev K=>by
 cases ifs with
 |nil=>
  show wpAny c.M c.A (forIn [] true _) Qv Ev w.s
  rw[List.forIn_nil]
  exact wpAny_pure (K w true σ q I)
 |cons e r=>cases r with
  |cons _ _=>exact q.elim
  |nil=>
   show wpAny c.M c.A (forIn [e] true _) Qv Ev w.s
   rw[List.forIn_cons,if_pos rfl]
   refine wpAny_bind (wpAny_bind ((hf e).t (Q:=λb σ=>Q b σ) q I (λw b σ q I=>wpAny_pure ?_) λh=>h.elim))
   show wpAny c.M c.A (forIn [] b _) Qv Ev w.s
   rw[List.forIn_nil]
   exact wpAny_pure (K w b σ q I)
theorem ZFp(B:Blk c sc){fv:List Nat}:∀{σ:Sg} {w:Wd},Inv c w σ Γ->∃w',w'.s=w.s/\Inv c w' (Zst σ fv) Γ:=by
 induction fv with
 |nil=>exactλ{_ w} I=>⟨w,rfl,I⟩
 |cons i r ih=>
  intro σ w I
  unfold Zst
  cases hk:kn (nth σ i)with
  |none=>exact ih I
  |some o=>
   obtain⟨v,h1,h2⟩:=I.en i o (Zjg hk)
   have S:Stp c (·=2*i) w (fz w (ZBe (2*i))):=.fz I.iv (Zuh (P:=(·=2*i)) rfl)
   exact ih (w:=fz w (ZBe (2*i))) (I.turn B S (EnvS.set (o:=.f o.frz) S Zdm I.en h1 (RepO.fr I.iv h2)))
theorem Zss{fv:List Nat}:∀{σ:Sg},(∀o,nth σ i=some (some o)->∃m,o=.f m)->∀o,nth (Zst σ fv) i=some (some o)->∃m,o=.f m:=by
 induction fv with
 |nil=>exactλh=>h
 |cons k r ih=>
  intro σ h
  refine ih λo e=>?_
  cases hk:kn (nth σ k)with
  |none=>rw[hk]at e;exact h o e
  |some v=>rw[hk]at e;exact(Ut e).elim (λq=>h o q.2) λq=>⟨_,Option.some.inj q.2⟩
theorem ZMf{fv:List Nat}:∀{σ:Sg},i∈fv->∀o,nth (Zst σ fv) i=some (some o)->∃m,o=.f m:=by
 induction fv with
 |nil=>exactλh=>absurd h List.not_mem_nil
 |cons k r ih=>
  intro σ h
  unfold Zst
  rcases List.mem_cons.mp h with rfl|h
  .refine Zss λo e=>?_
   cases hk:kn (nth σ i)with
   |none=>rw[hk]at e;rw[e]at hk;exact ns hk.symm
   |some v=>rw[hk]at e;exact(Ut e).elim (λq=>absurd rfl q.1) λq=>⟨_,Option.some.inj q.2⟩
  .exact ih h
theorem Zqr{o:OV}{k j:Nat}(h:nth (List.replicate k (none:Option OV)) j=some (some o)):False:=ns (List.eq_of_mem_replicate (List.mem_of_getElem? (Zca h))).symm
theorem Zcb{g:Nat->Option OV}{o:OV}:∀{fv:List Nat} {j:Nat},nth (fv.map g++List.replicate k none) j=some (some o)->∃i,nth fv j=some i/\g i=some o
 | [],j,h=>(Zqr h).elim
 |i::r,0,h=>⟨i,rfl,Option.some.inj h⟩
 |i::r,j+1,h=>Zcb (fv:=r) (j:=j) h
theorem Znf{f:Str->Option Nat}{q xs:List Str}{fv:List Nat}{j i:Nat}(h:xs.map f=fv.map some)(e:nth fv j=some i):∃x,nth (xs++q) j=some x/\f x=some i/\x∈xs:=by
 have k:(xs.map f)[j]?=some (some i):=by rw[h,List.getElem?_map,Zca e];rfl
 rw[List.getElem?_map]at k
 exact(Option.map_eq_some_iff.mp k).imp λx z=>⟨Xo.trans ((List.getElem?_append_left (List.getElem?_eq_some_iff.mp z.1).1).trans z.1),z.2,List.mem_of_getElem? z.1⟩
theorem Inv.unk(I:Inv c w σ Γ):Inv c w [] Γ:=⟨I.iv,λ_ _ h=>ns h,I.st⟩
noncomputable def Knw(c:Cx)(σ:Sg):Prop:=∀j o,nth σ j=some (some o)->∃m v,o=.f m/\c.pins j=some v/\RepF c.P c.Z1 m v
theorem Inv.know(h:Knw c σ)(I:Inv c w [] Γ):Inv c w σ Γ:=⟨I.iv,λj o e=>(h j o e).elim λm q=>q.elim λv q=>⟨v,I.iv.pin j v q.2.1,q.1▸q.2.2.mono I.iv.zsub⟩,I.st⟩
noncomputable abbrev Zuj(res:List MV)(D:Addr):List En:=[.o (.l res) (.ref D)]
theorem Zzd(B:Blk c sc){e:En}(I:Inv c w σ (.o (.f m) v::e::Zuj res D))(hl:res.length < Zb){Qv:Value->Shared->Prop}(H:∀w',Inv c w' σ (e::Zuj (res++[m]) D)->Qv .none w'.s):wpAny c.M c.A (call (.builtin "list.append") [.ref D,v]) Qv Ev w.s:=by
 obtain⟨rv,he,⟨a,us,n,ea,z,g,r,h⟩,_⟩:=I.st
 cases ea
 have eL:=r.length
 refine wpAny_list_append_plain (items:=us.toArray) ⟨n,g⟩ (λh' hp hs=>?_) (Nat.le_trans (Nat.le_of_eq (List.size_toArray.trans eL)) (Nat.le_trans (Nat.le_of_lt hl) ten))
 obtain⟨n',hp⟩:=hp
 have hp:h'.get? D=some (Zaj (us++[v]) n'):=by rw[hp,List.push_toArray]
 have S:Stp c (·=1) w {w with s:={w.s with heap:=h'}}:=.upd I.iv (wr:=(·=D)) (λb hb=>⟨_,hb▸z,rfl⟩) (λb o nb e=>hs.extBut b o nb e) (λb hb=>⟨_,hb▸hp⟩) (λ_ _ e=>e) λ_ _ e=>.inl e
 exact H _ ⟨S.iv B.toBeg I.iv,S.enS (λi h=>Zlg (j:=0) (Eq.symm h)) I.en,S.enOk (j:=1) (by decide) he,⟨D,us++[v],n',rfl,z,hp,(RepFs.one rv).append r,by rw[List.length_append];exact hl⟩,trivial⟩
theorem Zzb{step:MV->Option MV->Prop}{ms:List MV}:∀{rs:List (Option MV)},ZOf step ms rs->rs.length=ms.length/\∀(i:Nat) (m:MV),ms[i]?=some m->∃r,rs[i]?=some r/\step m r:=by
 induction ms with
 |nil=>exactλh=>⟨congrArg List.length h,λ_ _ e=>ns e⟩
 |cons m ms ih=>
  intro rs h
  obtain⟨r,q,rfl,h1,h2⟩:=h
  have ih:=ih h2
  exact⟨congrArg (·+1) ih.1,λi m e=>by cases i with
   |zero=>exact⟨r,rfl,Option.some.inj e▸h1⟩
   |succ i=>exact ih.2 i m e⟩
theorem Zgl{α:Type}{rs:List α}{r:α}(h:rs[i]?=some r):rs.take (i+1)=rs.take i++[r]:=by
 rw[List.take_add_one,h];rfl
theorem Zto(B:Blk c sc)(hh:c.A.handled=none){elt t it:Expr}{ifs:List Expr}{scope:Scope}{pos:Pos}{bd:Bd}(kn0:Knw c σ)(hbd:bdC sc c.xs c.pn c.fix t=some bd)(ht:tup=true->Xv t=true)(he:OkE c False N elt y)(hc:GB c (Zmg ifs c.env) ((mg N x).b))
  {rs:List (Option MV)}(hrs:ZOf (λm r=>onS (λσ=>stK σ λσ=>(mg N x).b σ λb σ=>onB ((mg N y).e False σ λv _=>r=some v.frz) (r=none) b) (Zfy bd m σ)) ms rs)(I:Inv c w [] (itE c ia ms tup 0::Zuj [] D)){R:Result->Shared->Prop}(H:∀w',Inv c w' [] (Zuj (rs.filterMap id) D)->R (.ok .next) w'.s):
  codeAny c.M c.A (.compLoop (.ListComp elt [⟨t,it,ifs,0⟩] scope pos) 0 (.ref ia) (.ref D) c.env) R w.s:=by
 obtain⟨hlen,hrs⟩:=Zzb hrs
 refine Uz (c:=c) (λk s=>∃i w,k=ms.length+1 - i/\i<=ms.length/\s=w.s/\Inv c w [] (itE c ia ms tup i::Zuj ((rs.take i).filterMap id) D)) ?_ (ms.length+1 - 0) ⟨0,w,rfl,Nat.zero_le _,rfl,I⟩
 rintro k s ⟨i,w,rfl,hi',rfl,I⟩
 obtain⟨fp,wr,St,Zi,W,z1,z2,z3,z4,z5⟩:=I.st.1.2
 by_cases hlt:i < ms.length
 .have hm:ms[i]?=some ms[i]:=List.getElem?_eq_getElem hlt
  obtain⟨r,hr,q⟩:=hrs i _ hm
  obtain⟨σ1,e1,q⟩:=Zo q
  have next:∀{w:Wd} {res:List MV},(rs.take (i+1)).filterMap id=res->Inv c w [] (itE c ia ms tup (i+1)::Zuj res D)->∃m,m < ms.length+1 - i/\∃i w',m=ms.length+1 - i/\i<=ms.length/\w.s=w'.s/\Inv c w' [] (itE c ia ms tup i::Zuj ((rs.take i).filterMap id) D):=λe I=>⟨ms.length+1 - (i+1),Nat.sub_succ_lt_self _ _ (Nat.lt_succ_of_lt hlt),i+1,_,rfl,hlt,rfl,e▸I⟩
  have na:NoAl (itE c ia ms tup (i+1)::Zuj ((rs.take i).filterMap id) D):=NoAl.cons_it (NoAl.cons_o λe he=>absurd he List.not_mem_nil)
  refine wpAny_mono (W.item i ms[i] w.s t (λv s₁=>wpAny c.M c.A (PySem.assign t c.env v) (λ_ s₂=>
     wpAny c.M c.A (Zmg ifs c.env) (λok s₃=>
      if ok=true then wpAny c.M c.A (eval elt c.env) (λx s₄=>
       wpAny c.M c.A (call (.builtin "list.append") [.ref D,x]) (λ_ s₅=>∃m,m < ms.length+1 - i/\∃i w,m=ms.length+1 - i/\i<=ms.length/\s₅=w.s/\Inv c w [] (itE c ia ms tup i::Zuj ((rs.take i).filterMap id) D)) (notedBy c.M c.A c.env λe s'=>R (.error e) s') s₄) (notedBy c.M c.A c.env λe s'=>R (.error e) s') s₃
      else∃m,m < ms.length+1 - i/\∃i w,m=ms.length+1 - i/\i<=ms.length/\s₃=w.s/\Inv c w [] (itE c ia ms tup i::Zuj ((rs.take i).filterMap id) D)) (notedBy c.M c.A c.env λe s'=>R (.error e) s') s₂) (notedBy c.M c.A c.env λe s'=>R (.error e) s') s₁) _ ht hm z2 λv h' tk g st hk=>?_) (λr s₁ h₁=>?_) λ_ _ h'=>h'
  .obtain⟨w',e',I'⟩:=(I.know kn0).draw B.toBeg W z1 z3 z4 z5 g st hk tk
   rw[<- e']
   refine Zjx B hh hbd e1 I' na λw I=>hc (Yy q) I λw b σ q I=>?_
   cases b with
   |false=>
    rw[if_neg (by decide)]
    exact next (by rw[Zgl hr,List.filterMap_append,show r=none from q];exact List.append_nil _) I.unk
   |true=>
    rw[if_pos rfl]
    refine he.v q I (λw v o σ q I=>?_) λh=>h.elim
    have I:=I.frz B.toBeg
    have hl:((rs.take i).filterMap id).length < Zb:=Nat.lt_of_le_of_lt (List.length_filterMap_le ..) (Nat.lt_of_le_of_lt (List.length_take_le ..) (Nat.lt_of_lt_of_le hlt z5))
    exact Zzd (w:=fz w _) B I hl λw' I=>next (by rw[Zgl hr,List.filterMap_append,q];rfl) I.unk
  .cases r with
   |none=>exact h₁.elim
   |some v=>exact h₁
 .obtain rfl:=Nat.le_antisymm hi' (Nat.not_lt.mp hlt)
  have I':=λ{h' tk} hk=>I.pop.next B.toBeg (Stp.drop (h:=h') I.iv z3 hk tk)
  rw[show rs.take ms.length=rs by rw[<- hlen,List.take_length]]at I'
  exact W.done w.s _ _ z2 λh' tk hk=>H _ (I' hk)
end
end
section
open PySem.Calls
section
variable{c c':Cx}{sc:Sc}{w w':Wd}{σ σ':Sg}{Γ:List En}{E:Prop}{N n i j k:Nat}{x y z:CE}{ms res:List MV}{m:MV}{v:Value}{o:OV}{ia D C:Addr}{tup:Bool}{Ev:Value->Shared->Prop}{elt t it:Expr}{ifs:List Expr}{scope:Scope}{pos:Pos}{bd:Bd}{fv:List Nat}
structure Zup(sc:Sc)(c:Cx)(N:Nat)(scope:Scope)(fv:List Nat)(k:Nat)(t:Expr)(bd:Bd)(elt:Expr)(ifs:List Expr)(x y:CE):Prop where
 O:Zac sc scope
 fr:(Xb scope.names).map (Zur · c.xs)=fv.map some
 nd:(Xb scope.names++Zav scope.names).Nodup
 bd:bdC (Zgt sc scope.names) (Xb scope.names++Zav scope.names) (List.range fv.length) true t=some bd
 e:∀c':Cx,Blk c' (Zgt sc scope.names)->RoomB c' N->c'.xs=Xb scope.names++Zav scope.names->c'.pn=List.range fv.length->c'.fix=true->OkE c' False N elt y/\GB c' (Zmg ifs c'.env) ((mg N x).b)
theorem Zdv{α:Type}{a:α}{l:List α}{i:Nat}(h:nth l i=some a):i < l.length:=(List.getElem?_eq_some_iff.mp (Zca h)).1
theorem Zyg(B:Blk c sc)(X:Zup sc c N scope fv k t bd elt ifs x y){s1:Shared}{Z1:Zf}{W1:Ow}{pins:Nat->Option Value}{pn:List Nat}(hj:nth fv j=some i)(hv:c.vl w i=some v)(hcm:w'.cm=w.cm):(c.comp scope C s1 Z1 W1 pins pn).vl w' j=some v:=by
 obtain⟨x,h1,h2,h3⟩:=Znf (q:=Zav scope.names) X.fr hj
 have hm:=Zsu.mp h3
 obtain⟨k1,k2⟩:=X.O.free _ hm rfl
 have hv:(nth c.xs i).bind (c.val w)=some v:=hv
 rw[Zhl h2]at hv
 have hv:Zom (c.env.cells.lookup x) (w.m x) (w.cm x) (c.env.kindOf x)=some v:=hv
 rw[B.kind,k1]at hv
 obtain⟨_,_,hv⟩:=Option.bind_eq_some_iff.mp hv
 obtain⟨a,ha⟩:=Option.isSome_iff_exists.mp (Zib (env:=c.env) (cs:=[]) (.inl hm))
 show(nth (Xb scope.names++Zav scope.names) j).bind _=_
 rw[h1]
 show Zom ((Xh c.env scope.names []).lookup x) _ _ (Env.kindOf (compEnvC scope (Xh c.env scope.names []) C c.env) x)=_
 rw[show Env.kindOf (compEnvC scope (Xh c.env scope.names []) C c.env) x=(Zgt sc scope.names).lookup x from Zhz B x,Zbm,k2,ha]
 simp only[Option.map_some,k1]
 show some a >>=(λ_=>w'.cm x)=_
 rw[hcm];exact hv
theorem Zmh(B:Blk c sc)(rm:RoomB c N)(X:Zup sc c N scope fv k t bd elt ifs x y)(ht:tup=true->Xv t=true){Q:OV->Sg->Prop}
  (q:stK (Zst σ fv) λσ=>CompP (Zfy bd) (mg N x).b ((mg N y).e False) ms (fv.map (λi=>kn (nth σ i))++List.replicate k none) λl=>Q (.l l) σ)(I:Inv c w σ (itE c ia ms tup 0::Γ)){RR:Value->Addr->Result->Shared->Prop}
  (H:∀w2 D C l m,Q (.l l) (Zst σ fv)->Inv c w2 (Zst σ fv) (.o (.l l) (.ref D)::Γ)->ZOk c w2 C->w2.s.heap.Ns C m->RR (.ref D) C (.ok .next) w2.s):
  wpAny c.M c.A (newList []) (λacc s₃=>wpAny c.M c.A (newFunctionEnv scope c.env.globals (Xh c.env scope.names []) [] c.env.qual none .none (some c.env)) (λcenv s₄=>
   codeAny c.M c.A (.compStart (.ListComp elt [⟨t,it,ifs,0⟩] scope pos) 0 (.ref ia) acc {cenv with scope:=relabel scope c.env}) (RR acc cenv.locals) s₄) Ev s₃) Ev w.s:=by
 obtain⟨⟨rs,hrs,hQ⟩⟩:=Yy q
 obtain⟨w0,e0,I⟩:=ZFp B (fv:=fv) I
 rw[<- e0]
 have O:=X.O
 refine wpAny_newObj_type (wpAny_newFunctionEnv O.nocell (λy hy=>absurd hy List.not_mem_nil) (λh₁ hns₁ hsb₁=>?_) O.kind)
 dsimp only at hns₁ hsb₁⊢
 generalize hH2:w0.s.heap.push {cls:=.type "list",dict:=none,data:=.seq ([]:List Value).toArray}=H2 at hns₁ hsb₁⊢
 have hC:H2.objs.size=w0.s.heap.objs.size+1:=by rw[<- hH2,Heap.size_push]
 have hCn:w0.s.heap.get? H2.objs.size=none:=Jw (by rw[hC];exact Nat.le_succ _)
 have hDn:=Zl w0.s.heap
 have hDC:w0.s.heap.objs.size≠H2.objs.size:=by rw[hC];exact Nat.ne_of_lt (Nat.lt_succ_self _)
 have old:∀b o,w0.s.heap.get? b=some o->h₁.get? b=some o:=λb o e=>hsb₁.extBut b o (λq=>ns2 hCn (q▸e)) (Heap.get?_push_of_some _ (hH2▸Heap.get?_push_of_some _ e))
 have hacc:h₁.get? w0.s.heap.objs.size=some (Zaj [] 0):=hsb₁.extBut _ _ hDC (Heap.get?_push_of_some _ (hH2▸Heap.get?_push_size _ rfl))
 have nD:∀{b o},w0.s.heap.get? b=some o->b≠w0.s.heap.objs.size:=λe q=>ns2 hDn (q▸e)
 have Wn:∀{b},w0.s.heap.get? b=none->w0.W b=none:=λ{b} h=>by
  cases q:w0.W b with
  |none=>rfl
  |some t=>exact(I.iv.wz b (Ze q)).2.elim λo e=>ns2 h e
 let g:Nat->Option Nat:=λt=>if t=2*Γ.length+1 then some 3 else none
 let W1:Ow:=λa=>if a=w0.s.heap.objs.size then some (1,Zja)else(cw w0 g).W a
 let s1:Shared:={w0.s with heap:=h₁,toks:=w0.s.toks+([]:List (Str×Value)).length}
 let pins:Nat->Option Value:=λj=>(nth fv j).bind (c.vl w0)
 let w1:Wd:=⟨s1,w0.Z,W1,λx=>([]:List (Str×Value)).reverse.lookup x,w0.cm⟩
 have W1n:∀{a},a≠w0.s.heap.objs.size->W1 a=(cw w0 g).W a:=λn=>if_neg n
 obtain⟨oC,esC,epC,hoC,hdC,_⟩:=id hns₁
 have d1:∀a,a∈(c.comp scope H2.objs.size s1 w0.Z W1 pins (List.range fv.length)).D\/a∈c.FL->w0.Z a=none/\W1 a=none/\∃o,h₁.get? a=some o:=λa h=>by
  have one:∀{a},a∈c.D\/a∈c.FL->(∃o,w0.s.heap.get? a=some o)->w0.Z a=none/\W1 a=none/\∃o,h₁.get? a=some o:=λh ⟨o,e⟩=>⟨(I.iv.free B.toBeg h).1,(W1n (nD e)).trans (Zcr (I.iv.free B.toBeg h).2),o,old _ o e⟩
  rcases h with h|h
  .rcases List.mem_cons.mp h with rfl|h
   .exact⟨I.iv.zn hCn,(W1n (Ne.symm hDC)).trans (Zcr (Wn hCn)),oC,hoC⟩
   .obtain⟨p,hp,rfl⟩:=List.mem_map.mp h
    have hd:=Cx.cell_D (Zeh (Jx B O) (λp hp=>absurd hp List.not_mem_nil) p hp)
    exact one (.inl hd) (I.iv.dd _ hd)
  .obtain⟨e,he,hf⟩:=List.mem_filterMap.mp h
   obtain⟨_,L,o,h2,h3,_⟩:=I.iv.frs e he
   cases hf.symm.trans h2
   exact one (.inr h) ⟨o,h3⟩
 have bg:Beg (c.comp scope H2.objs.size s1 w0.Z W1 pins (List.range fv.length)):=⟨λa o e=>I.iv.h0 B.toBeg a o e,d1⟩
 have Bk:=Zyh B O X.nd bg λi h=>by
  show(nth fv i).bind _=none
  cases q:nth fv i with
  |none=>rfl
  |some k=>
   rw[List.contains_iff_mem.mpr (List.mem_range.mpr (Zdv q))]at h
   exact nf h.symm
 have vl:∀{j i v},nth fv j=some i->c.vl w0 i=some v->(c.comp scope H2.objs.size s1 w0.Z W1 pins (List.range fv.length)).vl w1 j=some v:=λh1 h2=>Zyg B X h1 h2 rfl
 have I1:Inv (c.comp scope H2.objs.size s1 w0.Z W1 pins (List.range fv.length)) w1 [] (itE (c.comp scope H2.objs.size s1 w0.Z W1 pins (List.range fv.length)) ia ms tup 0::Zuj [] w0.s.heap.objs.size):=by
  refine⟨⟨λa o e h d=>.inl e,λ_ _ e=>e,λa o e=>old a o (I.iv.zok a o e),λa o e=>.inl e,λa h=>?_,λa h=>.inl h,hns₁,λx a hx=>?_,λa ha=>(d1 a (.inl ha)).2.2,λe he=>⟨(I.iv.frs e he).1,(I.iv.frs e he).2.elim λL q=>q.elim λo q=>⟨L,o,q.1,old L o q.2.1,q.2.2⟩⟩,rfl,I.iv.gens,λj v e=>?_⟩,λ_ _ h=>ns h,Zrw ?_,⟨_,[],0,rfl,if_pos rfl,hacc,rfl,Nat.zero_le _⟩,trivial⟩
  .by_cases q:a=w0.s.heap.objs.size
   .exact⟨I.iv.zn (q▸hDn),_,q▸hacc⟩
   .rw[show w1.W a=_ from W1n q]at h
    have z:=I.iv.wz a (Zfv h)
    exact⟨z.1,z.2.elim λo e=>⟨o,old a o e⟩⟩
  .exact Yi (I.iv.cl x a (Zeh (Jx B O) (λp hp=>absurd hp List.not_mem_nil) _ (Zj hx))) λo e=>⟨o,old a o e,rfl⟩
  .refine Zh (show(nth fv j).bind (c.vl w0)=some v from e) λi e1 e2=>vl e1 e2
  .have z:ItA c ia ms tup 0 w1 3:=ItA.keep (w:=w0) (w':=w1) (λ_ _ e=>e) (λa o e=>old a o (I.iv.zok a o e)) (λb x e=>?_) I.st.1.2
   .obtain⟨fp,wr,St,Zi,W,z⟩:=z
    exact⟨fp,wr,St,Zi,⟨W.frame,W.item,W.done,W.self,W.live⟩,z⟩
   obtain⟨o,hb⟩:=(I.iv.wz b (Ze e)).2
   exact⟨(W1n (nD hb)).trans ((ZGg e).trans (by rw[show g (2*Γ.length+1)=some 3 from if_pos rfl];rfl)),(old b o hb).trans hb.symm⟩
 have kn0:Knw (c.comp scope H2.objs.size s1 w0.Z W1 pins (List.range fv.length)) (fv.map (λi=>kn (nth (Zst σ fv) i))++List.replicate k none):=λj o e=>by
  obtain⟨i,hi,hk⟩:=Zcb e
  obtain⟨m,rfl⟩:=ZMf (Zjb hi) o (Zjg hk)
  obtain⟨v,h1,h2⟩:=I.en i _ (Zjg hk)
  exact⟨m,v,rfl,by show(nth fv j).bind _=_;rw[hi];exact h1,h2⟩
 have ec:=X.e _ Bk ⟨rm.handled,rm.frames,rm.depth,rm.units⟩ rfl rfl rfl
 have loop:=Zto (elt:=elt) (t:=t) (it:=it) (ifs:=ifs) (scope:=scope) (pos:=pos) (R:=RR (.ref w0.s.heap.objs.size) H2.objs.size) Bk rm.handled kn0 X.bd ht ec.1 ec.2 hrs I1 λw' I'=>by
  have N:Enter c (c.comp scope H2.objs.size s1 w0.Z W1 pins (List.range fv.length)) (cw w0 g):=by
   refine⟨λa o e h=>⟨old a o e,(W1n (nD e)).trans h⟩,λa h=>?_,λa h=>?_,rfl,λa ha=>List.mem_singleton.mp ha▸hCn,λa h=>.inl h,rfl,I.iv.gens⟩
   .by_cases q:a=w0.s.heap.objs.size
    .exact .inr (q▸hDn)
    .exact .inl ((W1n q)▸h)
   .cases q:w0.s.heap.get? a with
    |none=>exact q
    |some o=>exact ns2 h (old a o q)
  have S:=leave N I'.iv
  let r:Nat->Option Nat:=λt=>if t=1 then some (2*Γ.length+1)else none
  have I2:=Inv.back (c:=c) (r:=r) (Δ:=[itE c ia ms tup 0]) (ls:=[]) (outs:=[]) B.toBeg I S (λt h=>⟨Γ.length,Nat.le_refl _,by
   by_cases q:t=2*Γ.length+1
   .exact q
   .rw[show g t=none from if_neg q]at h;exact nf h⟩) (show RepO c.P {w' with m:=w0.m,cm:=w0.cm} 1 (.l (rs.filterMap id)) (.ref w0.s.heap.objs.size)from I'.st.1) (if_pos rfl) λj i p h1 h2=>ns h1
  have fr:=I'.iv.free bg (.inl Cx.locals_D)
  exact H (bk w0 {w' with m:=w0.m,cm:=w0.cm} g r) _ _ _ w'.m hQ I2 ⟨fr.1,by show bkW (w0.W _) (w'.W _) g r=none;rw[show w'.W H2.objs.size=none from fr.2,Wn hCn];rfl,(Qn B.toBeg I.iv hCn).1,(Qn B.toBeg I.iv hCn).2.1,(Qn B.toBeg I.iv hCn).2.2⟩ I'.iv.ns
 obtain⟨fp,wr,St,Zi,W,z1,z2,z3,z4,z5⟩:=I1.st.1.2
 exact codeAny_compStart_list loop (W.self 0 s1 _ _ z2 loop)
theorem ZGn(B:Blk c sc)(rm:RoomB c N)(hset:∀es k p,it≠.Set es k p)(X:Zup sc c N scope fv k t bd elt ifs x y)(ht:tup=true->Xv t=true)(hi:GI c E tup (eval it c.env) ((mg N z).i E)):OkE c E N (.ListComp elt [⟨t,it,ifs,0⟩] scope pos) (.comp y bd z x fv k):=.plain B (λσ Q w Γ q I Qv Ev K R=>by
 rw[eval_ListComp]
 refine wpAny_comprehension_free (use:=none) rfl (Jo hset) (Zeg (Jx B X.O)) X.O.kind X.O.loc (hi q I (λw ia ms σ q I=>?_) R)
 refine Zmh (RR:=λacc C=>compPost c.M c.A Ev none Qv acc C) B rm X ht q I λw2 D C l m hQ I S hm=>⟨m,hm,λh' hs=>?_⟩
 exact K {w2 with s:={w2.s with heap:=h'}} _ _ _ hQ (I.stray S hs)) rfl
theorem Zyi(B:Blk c sc)(rm:RoomB c N)(hset:∀es k p,it≠.Set es k p)(X:Zup sc c N scope fv k t bd elt ifs x y)(ht:tup=true->Xv t=true)(hi:GI c E tup (eval it c.env) ((mg N z).i E)){py spos:Pos}{s:Str}
  (hsw:swapsWith (.ListComp elt [⟨t,it,ifs,0⟩] scope pos) (some (.Name s py)) spos.line c.env=pure true)(hs:tgt sc c.xs c.pn c.fix s=some i)(hk:sc.lookup s=some .local):
  GS c E (PySem.exec (.Assign [.Name s py] (.ListComp elt [⟨t,it,ifs,0⟩] scope pos) spos) c.env) ((mg N (.as (.tn i) (.comp y bd z x fv k))).s E):=λσ Q w Γ q I na Qf Ev K R=>by
 rw[exec_Assign_Name_used _ _ _ _ hsw]
 refine wpAny_bind (wpAny_standAt (wpAny_bind ?_))
 show wpAny _ c.A (do let _ <- comprehension (.ListComp elt [⟨t,it,ifs,0⟩] scope pos) scope c.env _ (newList []) false (eval it c.env) (some (PySem.assign (.Name s py) c.env))) _ _ w.s
 refine wpAny_bind (wpAny_mono (wpAny_comprehension_free (M:=c.M) (use:=some (PySem.assign (.Name s py) c.env)) (Q:=λ_ s'=>Qf .next s') rfl (Jo hset) (Zeg (Jx B X.O)) X.O.kind X.O.loc (hi q I (λw ia ms σ q I=>?_) R)) (λ_ s' hq=>wpAny_pure (wpAny_pure hq)) λ_ _ e=>e)
 refine Zmh (Q:=λo σ=>(mg N (.tn i)).g o E σ (Q .next)) (RR:=λacc C=>compPost c.M c.A Ev (some (PySem.assign (.Name s py) c.env)) (λ_ s'=>Qf .next s') acc C) B rm X ht q I λw2 D C l m hQ I S hm=>?_
 have T:=Zov hs
 refine wpAny_assign_Name (Zgo B I na T.i T.p hk λh' tk m' hs I'=>?_)
 have CL:C≠c.env.locals:=λq=>S.d (q▸Cx.locals_D)
 refine⟨m,Xp hm λo e=>⟨o,hs.extBut C o CL e,rfl⟩,λh2 hs2=>?_⟩
 exact K {Zpf (rtg w2 (2*Γ.length+1) (2*i)) h' tk m' w2.cm with s:={w2.s with heap:=h2,toks:=tk}} .next .next _ (Yy hQ) ⟨rfl,I'.stray ⟨S.z,by show(w2.W C).map _=none;rw[S.w];rfl,S.k,S.d,S.f⟩ hs2⟩
end
end
section
set_option backward.match.sparseCases true
open PySem.Calls
section
variable{k:Str->Option NameKind}{x:Str}{v:Value}
theorem Ztv{bs:List (Str×Value)}{m:Str->Option Value}(h:∀b∈bs,b.1≠x):bindL k bs m x=m x:=by
 induction bs generalizing m with
 |nil=>rfl
 |cons b r ih=>
  obtain⟨y,v⟩:=b
  unfold bindL
  rw[ih λb hb=>h b (.tail _ hb)]
  split
  .exact if_neg (Ne.symm (h (y,v) (.head _)))
  .rfl
theorem Zlj{bs:List (Str×Value)}(hn:x ∉ bs.map (·.1)):∀b∈bs,b.1≠x:=λb hb e=>hn (List.mem_map.mpr ⟨b,hb,e⟩)
theorem Zyt(hk:k x=some .local){bs:List (Str×Value)}{m:Str->Option Value}(nd:(bs.map (·.1)).Nodup)(h:(x,v)∈bs):bindL k bs m x=some v:=by
 induction bs generalizing m with
 |nil=>cases h
 |cons b r ih=>
  obtain⟨y,u⟩:=b
  obtain⟨hn,nd'⟩:=List.nodup_cons.mp nd
  unfold bindL
  rcases List.mem_cons.mp h with e|h
  .cases e
   rw[Ztv (Zlj hn),if_pos hk]
   exact if_pos rfl
  .exact ih nd' h
theorem Ztw{bs:List (Str×Value)}{m:Str->Option Value}(h:∀b∈bs,b.1≠x):bindC k bs m x=m x:=by
 induction bs generalizing m with
 |nil=>rfl
 |cons b r ih=>
  obtain⟨y,v⟩:=b
  unfold bindC
  rw[ih λb hb=>h b (.tail _ hb)]
  split
  .rfl
  .exact if_neg (Ne.symm (h (y,v) (.head _)))
theorem Zyu(hk:¬k x=some .local){bs:List (Str×Value)}{m:Str->Option Value}(nd:(bs.map (·.1)).Nodup)(h:(x,v)∈bs):bindC k bs m x=some v:=by
 induction bs generalizing m with
 |nil=>cases h
 |cons b r ih=>
  obtain⟨y,u⟩:=b
  obtain⟨hn,nd'⟩:=List.nodup_cons.mp nd
  unfold bindC
  rcases List.mem_cons.mp h with e|h
  .cases e
   rw[Ztw (Zlj hn),if_neg hk]
   exact if_pos rfl
  .exact ih nd' h
end
noncomputable def Zw:Nat->List Pol->List Nat
 |_,[]=>[]
 |n,p::r=>if p=.lend then n::Zw (n+1) r else Zw (n+1) r
theorem Zhj:∀{ps:List Pol} {n j:Nat},nth ps j=some .lend->n+j∈Zw n ps
 |p::r,n,0,h=>by
  rw[Zw,if_pos (Option.some.inj h)];exact List.mem_cons_self
 |p::r,n,j+1,h=>by
  have:=Zhj (ps:=r) (n:=n+1) (j:=j) h
  rw[Nat.add_right_comm]at this
  unfold Zw
  by_cases q:p=.lend
  .rw[if_pos q];exact List.mem_cons_of_mem _ this
  .rw[if_neg q];exact this
noncomputable def Zna:List Pol->Sg->List (Option OV)
 | [],_=>[]
 |p::r,s=>(match s with| []=>[]|o::s=>(match p with| .lend=>o|_=>none)::Zna r s)
theorem Zqk{o:OV}:∀{ps:List Pol} {s:Sg} {j:Nat},nth (Zna ps s) j=some (some o)->nth ps j=some .lend/\nth s j=some (some o)
 | [],_,_,h=>ns h
 |_::_,[],_,h=>ns h
 |p::r,a::s,0,h=>by cases p with
  |lend=>exact⟨rfl,h⟩
  |_=>exact ns (Option.some.inj h)
 |p::r,a::s,j+1,h=>Zqk (ps:=r) (s:=s) (j:=j) h
theorem Zjd{α:Type}{a b:List α}{j:Nat}(h:j < a.length):nth (a++b) j=nth a j:=Xo.trans ((List.getElem?_append_left h).trans Xo.symm)
theorem Zli{α:Type}{a b:List α}{j:Nat}:nth (a++b) (a.length+j)=nth b j:=by rw[Xo,Xo,List.getElem?_append_right (Nat.le_add_right ..),Nat.add_sub_cancel_left]
theorem Zlh{α:Type}{a:List α}{j:Nat}(h:j < a.length):∃x,nth a j=some x:=⟨a[j],Xo.trans (List.getElem?_eq_getElem h)⟩
theorem ZDo{α β:Type}{x:α}{y:β}{a:List α}{b:List β}{j:Nat}(h:nth a j=some x)(k:nth b j=some y):(x,y)∈a.zip b:=List.mem_of_getElem? (List.getElem?_zip_eq_some.mpr ⟨Zca h,Zca k⟩)
section
variable{c c':Cx}{w w':Wd}{σ σ':Sg}{E:Prop}{N n i j k a:Nat}{x b:CE}{fn:Fn}{args:List OV}{vs us:List Value}{K:OV->List (Option OV)->Prop}{ls:List Str}{fd:FuncData}{s₁:Shared}
theorem RepFs.nth{P:Px}{Z:Zf}{m:MV}{l:List MV}{us:List Value}{j:Nat}(x:RepFs P Z l us)(h:Mine.nth l j=some m):∃v,Mine.nth us j=some v/\RepF P Z m v:=(x.get (Zca h)).imp λv q=>⟨Xo.trans q.1,q.2⟩
noncomputable def Cx.called(c:Cx)(fd:FuncData)(a:Addr)(xs:List Str)(s:Shared)(s₁:Shared)(w:Wd)(us:List Value)(pn:List Nat):Cx:=c.alt (c.A.deeper (callEnvC fd s.heap.objs.size a)) (callEnvC fd s.heap.objs.size a) (callEnvC fd s.heap.objs.size a::c.l) xs s₁ w.Z w.W false (λi=>if pn.contains i=true then nth us i else none) pn
noncomputable def Zah(vals:List OV)(k:Nat):Sg:=vals.map some++List.replicate k none
theorem Zoc(names:List (Str×NameKind))(n m:Nat)(a b:List (Str×Addr))(h:a.map (·.1)=b.map (·.1)):(cellsFrom n names a).map (·.1)=(cellsFrom m names b).map (·.1):=by
 induction names generalizing n m a b with
 |nil=>exact h
 |cons p r ih=>
  obtain⟨x,k⟩:=p
  unfold cellsFrom
  split
  .exact ih _ _ _ _ (congrArg (x::·) h)
  .exact ih _ _ _ _ h
theorem Zfi{l:List (Str×Addr)}{x:Str}{b:Addr}(nd:(l.map (·.1)).Nodup)(h:(x,b)∈l):l.lookup x=some b:=by
 induction l with
 |nil=>cases h
 |cons p r ih=>
  obtain⟨hn,nd'⟩:=List.nodup_cons.mp nd
  rw[List.lookup_cons]
  rcases List.mem_cons.mp h with e|h
  .cases e;rw[beq_self_eq_true]
  .rw[show(x==p.1)=false from beq_eq_false_iff_ne.mpr λe=>hn (List.mem_map.mpr ⟨(x,b),h,e⟩)]
   exact ih nd' h
theorem Zjc{j:Nat}{o:OV}{q:Sg}:∀{l:List OV},nth (l.map some++List.replicate k none) j=some (some o)->nth l j=some o:=λ{l}=>by
 induction l generalizing j with
 |nil=>exactλh=>(Zqr h).elim
 |cons a r ih=>exactλh=>match j,h with
  |0,h=>Option.some.inj h
  |j+1,h=>ih h
theorem Zqs{l:List MV}{j:Nat}{o:OV}(h:nth (l.map OV.f) j=some o):∃m,nth l j=some m/\o=.f m:=by
 rw[Xo,List.getElem?_map]at h
 exact(Option.map_eq_some_iff.mp h).imp λm q=>⟨Xo.trans q.1,q.2.symm⟩
theorem Zhd{l:List OV}{j:Nat}{o:OV}(h:nth l j=some o):nth (l.map some) j=some (some o):=by rw[Xo,List.getElem?_map,Zca h];rfl
theorem Jy(B:Base c)(F:Zuo c a fn)(R:ZHd c (N+1))(Pr:Pre c w)(nd:(fn.params++ls).Nodup)(hv:vs.length=args.length)(V:ZPh c.P w (args.map some) vs)(hl:args.length<=fn.params.length)(hd:fn.params.length - args.length<=fn.dflts.length){Rr:Result->Shared->Prop}
  (H:∀fd s₁ us m cm,Blk (c.called fd a (fn.params++ls) w.s s₁ w us (Zw 0 fn.pols)) fn.names->RoomB (c.called fd a (fn.params++ls) w.s s₁ w us (Zw 0 fn.pols)) N->Enter c (c.called fd a (fn.params++ls) w.s s₁ w us (Zw 0 fn.pols)) w->
   Inv (c.called fd a (fn.params++ls) w.s s₁ w us (Zw 0 fn.pols)) ⟨s₁,w.Z,w.W,m,cm⟩ (Zah (args++(fn.dflts.drop (fn.dflts.length - (fn.params.length - args.length))).map .f) ls.length) []->(∀j,nth fn.pols j=some .lend->nth us j=nth vs j)->us.length=fn.params.length->(∀b o,w.s.heap.get? b=some o->s₁.heap.get? b=some o)->
   wpAny c.M (c.A.deeper (callEnvC fd w.s.heap.objs.size a)) (PySem.execs fn.body (callEnvC fd w.s.heap.objs.size a)) (λf s'=>Rr (.ok (.ret (match f with| .ret v=>v|_=>.none))) s')
    (λe s'=>wpAny c.M (c.A.deeper (callEnvC fd w.s.heap.objs.size a)) (leaving (callEnvC fd w.s.heap.objs.size a) e) (λ_ s''=>Rr (.error e) s'') (λe' s''=>Rr (.error e') s'') s') s₁):
  codeAny c.M c.A (.call (.ref a) ⟨vs,[]⟩) Rr w.s:=by
 obtain⟨o,fd,hb0,hdata,hcd,hbody,hclo,hn,hk,hco,hgen,hgl,hbl,hbind⟩:=F.ex
 have k0:∀b o,c.h₀.get? b=some o->w.s.heap.get? b=some o:=λb o e=>Pr.zok b o (Pr.h0 b o e)
 obtain⟨ds,rds,hb⟩:=hbind w.s vs k0 (hv▸hl) (hv▸hd)
 rw[hv]at rds
 have dl:(fn.dflts.drop (fn.dflts.length - (fn.params.length - args.length))).length=fn.params.length - args.length:=by rw[List.length_drop,Nat.sub_sub_self hd]
 have dsl:=rds.length.trans dl
 have pl:fn.params.length=(vs++ds).length:=by rw[List.length_append,hv,dsl,Nat.add_sub_of_le hl]
 have hkind:∀y,(callEnvC fd w.s.heap.objs.size a).kindOf y=fn.names.lookup y:=λy=>by rw[<- hn];rfl
 have hcells:∀y,fn.names.lookup y=some .cell->((cellsFrom (w.s.heap.objs.size+1) fd.scope.names []).lookup y).isSome=true:=λy e=>cellsFrom_some _ _ _ (.inl (by rw[hn];exact e))
 refine codeAny_call_function (Nat.lt_of_le_of_lt (Nat.le_trans (Nat.le_add_right _ _) (Nat.le_add_right _ _)) R.depth) (k0 _ _ hb0) hdata hco hgen hbody (hcd.keeps k0) ?_
 rw[hclo]
 refine hb _ _ _ _ (wpAny_newFunctionEnv_cells hk (λy hy=>?_) λenv henv s₁ x=>?_)
 .have hy':y.1∈fn.params:=(List.of_mem_zip (show(y.1,y.2)∈fn.params.zip (vs++ds)from hy)).1
  rw[hn]
  exact(F.kinds y.1 hy').imp id λq=>⟨q,by have:=hcells y.1 q;rw[hn]at this;exact this⟩
 subst henv
 have keep:=x.toInCall.keep
 have fresh:∀{b:Addr},w.s.heap.objs.size<=b->w.s.heap.get? b=none:=λh=>Jw h
 have hD:∀b∈(c.called fd a (fn.params++ls) w.s s₁ w (vs++ds) (Zw 0 fn.pols)).D,w.s.heap.get? b=none:=λb hb=>by
  rcases List.mem_cons.mp hb with rfl|hb
  .exact fresh x.toInCall.fresh
  .obtain⟨p,hp,rfl⟩:=List.mem_map.mp hb
   exact fresh (Nat.le_trans x.toInCall.fresh (Nat.le_of_lt (x.above p.1 p.2 hp)))
 obtain⟨h1,tk,hsame⟩:=x.toInCall.same
 have Zn:∀{b},w.s.heap.get? b=none->w.Z b=none:=λ{b} h=>by
  cases q:w.Z b with
  |none=>rfl
  |some o=>exact ns2 h (Pr.zok _ _ q)
 have Wn:∀{b},w.s.heap.get? b=none->w.W b=none:=λ{b} h=>by
  cases q:w.W b with
  |none=>rfl
  |some t=>exact(Pr.wz b (Ze q)).2.elim λo e=>ns2 h e
 obtain⟨oL,esL,epL,hoL,hdL,hL⟩:=id x.toInCall.ns
 have cellD:∀p∈(callEnvC fd w.s.heap.objs.size a).cells,∃o,s₁.heap.get? p.2=some o:=λp hp=>by
  have nd:(((callEnvC fd w.s.heap.objs.size a).cells).map (·.1)).Nodup:=by
   have q:=F.cells
   rw[Zoc fn.names 0 (w.s.heap.objs.size+1) [] [] rfl,<- hn]at q
   exact q
  exact(x.cell p.1 p.2 (Zfi nd hp)).elim λo q=>⟨o,q.1⟩
 have there:∀b,b∈(c.called fd a (fn.params++ls) w.s s₁ w (vs++ds) (Zw 0 fn.pols)).D->∃o,s₁.heap.get? b=some o:=λb hb=>by
  rcases List.mem_cons.mp hb with rfl|hb
  .exact⟨oL,hoL⟩
  .obtain⟨p,hp,rfl⟩:=List.mem_map.mp hb
   exact cellD p hp
 have frs:Frs s₁.heap (callEnvC fd w.s.heap.objs.size a::c.l):=λe he=>by
  rcases List.mem_cons.mp he with rfl|he
  .exact⟨by show fd.scope.kind≠.module;rw[hk];decide,_,oL,rfl,hoL,λvs=>by rw[hdL];nofun⟩
  .obtain⟨h1,L,o,h2,h3,h4⟩:=Pr.frs e he
   exact⟨h1,L,o,h2,keep _ _ h3,h4⟩
 have bg:Beg (c.called fd a (fn.params++ls) w.s s₁ w (vs++ds) (Zw 0 fn.pols)):=⟨Pr.h0,λb h=>by
  rcases h with h|h
  .exact⟨Zn (hD b h),Wn (hD b h),there b h⟩
  .obtain⟨e,he,hf⟩:=List.mem_filterMap.mp h
   obtain⟨_,L,o,h2,h3,_⟩:=frs e he
   cases hf.symm.trans h2
   refine⟨?_,?_,o,h3⟩
   .rcases List.mem_cons.mp he with rfl|he
    .cases h2;exact Zn (fresh (Nat.le_refl _))
    .exact(Pr.fl b (List.mem_filterMap.mpr ⟨e,he,hf⟩)).1
   .rcases List.mem_cons.mp he with rfl|he
    .cases h2;exact Wn (fresh (Nat.le_refl _))
    .exact(Pr.fl b (List.mem_filterMap.mpr ⟨e,he,hf⟩)).2⟩
 have Bk:Blk (c.called fd a (fn.params++ls) w.s s₁ w (vs++ds) (Zw 0 fn.pols)) fn.names:={B.alt,bg with
  kf:=hk,eg:=hgl,eb:=hbl,kind:=hkind,kcell:=hcells,nm:=F.names,nx:=nd
  cd:=λ_=>List.pairwise_map.mpr x.apart
  pp:=λi h=>if_neg (Bool.eq_false_iff.mp h)}
 have vl:∀{j v},j < fn.params.length->nth (vs++ds) j=some v->(c.called fd a (fn.params++ls) w.s s₁ w (vs++ds) (Zw 0 fn.pols)).vl ⟨s₁,w.Z,w.W,bindL (callEnvC fd w.s.heap.objs.size a).kindOf (fn.params.zip (vs++ds)) λ_=>none,bindC (callEnvC fd w.s.heap.objs.size a).kindOf (fn.params.zip (vs++ds)) λ_=>none⟩ j=some v:=λ{j v} hj hv=>by
  obtain⟨y,hy⟩:=Zlh hj
  have nb:((fn.params.zip (vs++ds)).map (λb=>b.1)).Nodup:=by
   rw[List.map_fst_zip (Nat.le_of_eq pl)];exact F.nodup
  have hm:=ZDo hy hv
  show(nth (fn.params++ls) j).bind _=_
  rw[Zjd hj,hy]
  show Zom _ _ _ ((callEnvC fd w.s.heap.objs.size a).kindOf y)=_
  rcases F.kinds y (Zjb hy)with e|e
  .rw[hkind,e];exact Zyt ((hkind y).trans e) nb hm
  .obtain⟨cl,hcl⟩:=Option.isSome_iff_exists.mp (hcells y e)
   rw[hkind,e,show(c.called fd a (fn.params++ls) w.s s₁ w (vs++ds) (Zw 0 fn.pols)).env.cells.lookup y=some cl from hcl]
   exact Zyu (by rw[hkind,e];decide) nb hm
 refine⟨B.nolimit.keeps λb o e=>keep b o (k0 b o e),codeAny_func (H fd s₁ (vs++ds) _ _ Bk ⟨R.handled,?_,?_,?_⟩ ⟨λb o e h=>⟨keep b o e,h⟩,λb h=>.inl h,λb h=>?_,rfl,λb hb=>hD b (Cx.X_D hb),λb hb=>?_,by rw[hsame];rfl,Pr.gens⟩ ⟨⟨λb o e _ _=>.inl e,λ_ _ e=>e,λb o e=>keep b o (Pr.zok b o e),λb o e=>.inl e,λb h=>⟨(Pr.wz b h).1,(Pr.wz b h).2.elim λo e=>⟨o,keep b o e⟩⟩,λb h=>.inl h,x.toInCall.ns,x.cell,there,frs,rfl,?_,λi v e=>?_⟩,λj o e=>?_,trivial⟩ (λj hj=>?_) pl.symm keep)⟩
 .show c.A.frames.map _=_
  rw[R.frames];rfl
 .show c.A.depth+1+2*N+11 < recursionLimit
  rw[Nat.add_right_comm c.A.depth]
  exact R.depth
 .show c.A.units+3+20*N+110 < cLine
  rw[Nat.add_right_comm c.A.units]
  exact Nat.lt_of_le_of_lt (Nat.add_le_add_left (by decide:113<=120) _) R.units
 .cases q:w.s.heap.get? b with
  |none=>rfl
  |some o=>exact ns2 h (keep b o q)
 .obtain⟨e,he,hf⟩:=List.mem_filterMap.mp hb
  rcases List.mem_cons.mp he with rfl|he
  .cases hf;exact .inr (fresh (Nat.le_refl _))
  .exact .inl (List.mem_filterMap.mpr ⟨e,he,hf⟩)
 .show s₁.gens=#[]
  rw[hsame];exact Pr.gens
 .have e:(if(Zw 0 fn.pols).contains i=true then nth (vs++ds) i else none)=some v:=e
  by_cases q:(Zw 0 fn.pols).contains i=true
  .rw[if_pos q]at e
   exact vl (pl▸Zdv e) e
  .rw[if_neg q]at e;exact ns e
 .have h:=Zjc (q:=[]) e
  have kp:∀t,Zun w ⟨s₁,w.Z,w.W,bindL (callEnvC fd w.s.heap.objs.size a).kindOf (fn.params.zip (vs++ds)) λ_=>none,bindC (callEnvC fd w.s.heap.objs.size a).kindOf (fn.params.zip (vs++ds)) λ_=>none⟩ t t:=λt b x e=>⟨e,(Pr.wz b (Ze e)).2.elim λo q=>(keep b o q).trans q.symm⟩
  by_cases hj:j < args.length
  .rw[Zjd hj]at h
   obtain⟨v,h1,h2⟩:=V j o (Zhd h)
   exact⟨v,vl (Nat.lt_of_lt_of_le hj hl) ((Zjd (hv▸hj)).trans h1),RepO.keep (w:=w) (λ_ _ e=>e) (kp _) h2⟩
  .obtain⟨j',rfl⟩:=Nat.exists_eq_add_of_le (Nat.le_of_not_lt hj)
   rw[Zli]at h
   obtain⟨m,h1,rfl⟩:=Zqs h
   obtain⟨v,h2,h3⟩:=rds.nth h1
   exact⟨v,vl (Nat.add_lt_of_lt_sub' (Nat.lt_of_lt_of_eq (Zdv h1) dl)) (by rw[<- hv,Zli];exact h2),h3.mono Pr.h0⟩
 .rcases F.lend with q|q
  .have:ds=[]:=List.eq_nil_of_length_eq_zero (by rw[dsl,<- dl,q,List.drop_nil];rfl)
   rw[this,List.append_nil]
  .exact absurd rfl (q _ (Zjb hj))
theorem Zai{M:Model}{A:Around}{Ev:Value->Shared->Prop}{base:Heap}{outer:List Env}{L e:Addr}{a0:Value}{Q:Unit->Shared->Prop}{s:Shared}
  (hfr:A.frames=some (c.env::outer))(hl:c.l=c.env::outer)(hf:c.env.frame=some L)(hfl:Air c base e a0 s.heap)
  (hQ:∀h',Heap.FlyingW base outer e (.ref c.bad) a0 h'->s.heap.UpToSlots h'->Q () {s with heap:=h'}):wpAny M A (leaving c.env (.ref e)) Q Ev s:=by
 rcases hfl with hfl|⟨L',hf',hh⟩
 .rw[hl]at hfl
  exact wpAny_leaves_onW hfr hf hfl hQ
 .rw[hl]at hh
  unfold leaving
  refine wpAny_bind (wpAny_noteFrame_againW hf' hh.2.2.2 ?_)
  refine wpAny_landsW hh λh' hfl up=>?_
  obtain⟨k1,k2,⟨_,_,k3⟩,k4⟩:=hfl
  exact hQ h' ⟨k1,k2,k3,k4⟩ up
theorem Enter.low{B:Heap}(En:Enter c c' w)(hl:c'.l=c'.env::c.l)(hf:∀L,c'.env.frame=some L->w.s.heap.get? L=none)(hB:∀b o,c'.s1.heap.get? b=some o->c'.W1 b=none->b ∉ c'.X->b ∉ c'.FL->B.get? b=some o):∀b o,w.s.heap.get? b=some o->w.W b=none->b ∉ c.FL->B.get? b=some o:=λb o hb hw h=>by
 refine hB b o (En.s1 b o hb hw).1 (En.s1 b o hb hw).2 (λq=>ns2 (En.x _ q) hb) λq=>?_
 unfold Cx.FL at q
 rw[hl,List.filterMap_cons]at q
 cases hc:c'.env.frame with
 |none=>rw[hc]at q;exact h q
 |some L=>
  rw[hc]at q
  exact(List.mem_cons.mp q).elim (λz=>ns2 (hf L hc) (z▸hb)) h
theorem Flown.up{s':Shared}{h':Heap}{e:Addr}{B:Heap}{a0:Value}(En:Enter c c' w)(Pr:Pre c w)(Tk:∀a o,c'.s1.heap.get? a=some o->c'.W1 a=none->a ∉ c'.X->s'.heap.get? a=some o\/(a∈c'.FL/\∃sl,s'.heap.get? a=some {o with slots:=sl}))(Tg:s'.gens=#[])(To:s'.os=c'.s1.os)
  (low:∀b o,w.s.heap.get? b=some o->w.W b=none->b ∉ c.FL->B.get? b=some o)(fl:Heap.FlyingW B c.l e (.ref c.bad) a0 h')(up:s'.heap.UpToSlots h'):Thrown c w {s' with heap:=h'} e:=by
 refine⟨λb o hb hw=>?_,Tg.trans En.gens.symm,To.trans En.os,B,a0,low,fl⟩
 by_cases hl:b∈c.FL
 .obtain⟨en,hen,hfr⟩:=List.mem_filterMap.mp hl
  obtain⟨_,L,o',h2,h3,h4⟩:=Pr.frs en hen
  cases hfr.symm.trans h2
  cases hb.symm.trans h3
  rcases Tk b o (En.s1 b o hb hw).1 (En.s1 b o hb hw).2 (λq=>ns2 (En.x _ q) hb)with y|⟨_,sl,y⟩
  .exact(up b o y h4).elim λsl y'=>.inr ⟨hl,sl,y'⟩
  .exact(up b _ y h4).elim λsl' y'=>.inr ⟨hl,sl',y'⟩
 .exact .inl (fl.1 b o (low b o hb hw hl))
theorem RepO.nm{P:Px}{t:Nat}{o:OV}{v:Value}{m cm:Str->Option Value}(h:RepO P w t o v):RepO P {w with m:=m,cm:=cm} t o v:=RepO.keep (w:=w) (w':={w with m:=m,cm:=cm}) (λ_ _ e=>e) (λb x e=>⟨e,rfl⟩) h
noncomputable def ZPv(K:OV->Prop):Fl->Prop
 | .ret v=>K v
 |_=>K (.f .none)
theorem ZSa{T:Sg->(Fl->Sg->Prop)->Prop}(hf:TT.fn a=some fn)(nd:(fn.params++ls).Nodup)(hp:fn.pols.length=fn.params.length)(hl:args.length<=fn.params.length)(hd:fn.params.length - args.length<=fn.dflts.length)
  (hb:∀c',Blk c' fn.names->RoomB c' N->Top c'->c'.xs=fn.params++ls->c'.pn=Zw 0 fn.pols->c'.fix=false->GS c' E (PySem.execs fn.body c'.env) T)
  (q:T (Zah (args++(fn.dflts.drop (fn.dflts.length - (fn.params.length - args.length))).map .f) ls.length) λt σ=>ZPv (λv=>K v (Zna fn.pols σ)) t):CallP (N+1) E a args K:=
 ⟨λc B R w vs Pr hv V Rr H1 H2=>Jy B (B.fns a fn hf) R Pr nd hv V hl hd λfd s₁ us m cm Bk rm En I hus hul _=>by
  have vals:∀{w' σ' Γ'},Inv (c.called fd a (fn.params++ls) w.s s₁ w us (Zw 0 fn.pols)) w' σ' Γ'->ZPh c.P {w' with m:=w.m,cm:=w.cm} (Zna fn.pols σ') vs:=λ{w' σ' Γ'} I j o e=>by
   obtain⟨h1,h2⟩:=Zqk e
   obtain⟨v,h3,h4⟩:=I.en j o h2
   obtain⟨u,hu⟩:=Zlh (a:=us) (j:=j) (by rw[hul,<- hp];exact Zdv h1)
   have h5:=I.iv.pin j u ((if_pos (List.contains_iff_mem.mpr (Nat.zero_add j▸Zhj (n:=0) h1))).trans hu)
   exact⟨v,by rw[<- hus j h1,hu];exact h5.symm.trans h3,RepO.nm (P:=c.P) h4⟩
  refine hb _ Bk rm ⟨c.l,_,rfl,rfl⟩ rfl rfl rfl q I (λe he=>absurd he List.not_mem_nil) (λw' t f σ' q h=>?_) λhE e s' T=>?_
  .cases t with
   |next=>obtain⟨rfl,I⟩:=h;exact H1 (.f .none) _ .none {w' with m:=w.m,cm:=w.cm} q (leave En I.iv) rfl (vals I)
   |cont=>obtain⟨rfl,I⟩:=h;exact H1 (.f .none) _ .none {w' with m:=w.m,cm:=w.cm} q (leave En I.iv) rfl (vals I)
   |ret o=>obtain⟨v,rfl,I⟩:=h;exact H1 o _ v {w' with m:=w.m,cm:=w.cm} q (leave En I.iv) (RepO.nm (P:=c.P) I.st.1) (vals I)
  .obtain⟨B',a0,hB,air⟩:=T.fly
   exact Zai (c:=c.called fd a (fn.params++ls) w.s s₁ w us (Zw 0 fn.pols)) rm.frames rfl rfl air λh' fl up=>H2 hE e _ (Flown.up En Pr T.kept T.gens T.os (En.low rfl (λL e=>by cases e;exact Zl _) hB) fl up)⟩
end
end
section
open PySem.Calls
noncomputable abbrev far:Nat:=3
noncomputable def ZEy:Expr->Bool
 | .Subscript ..=>true
 |_=>false
noncomputable def Zdg:Expr->Bool
 | .Set ..=>true
 |_=>false
section
variable(sc:Sc)(xs:List Str)(f:Expr->CE)
noncomputable def ZSx(b e:Expr)(a:Str):CE:=match pth sc xs far e with
 |some p=>.rd p
 |none=>bif ZEy b then .sat (f b) a else .bad
noncomputable def nmC(e:Expr):CE:=match pth sc xs far e with
 |some p=>.rd p
 |none=>.bad
noncomputable def slC(v:Expr)(l u:Option Expr):CE:=match pth sc xs far v with
 |none=>.slE (f v) (Zfc f l) (Zfc f u)
 |some p=>(match p with| .v j=>.sl (.v j) (Zfc f l) (Zfc f u)|p=>(match Zfd (pth sc xs far) l with|some x=>(match Zfd (pth sc xs far) u with|some y=>.sl p x y|none=>.bad)|none=>.bad))
noncomputable def ZEw(v s:Expr):CE:=match pth sc xs far v with
 |none=>.subE (f v) (f s)
 |some p=>(match p with| .v j=>.sub (.v j) (f s)|p=>(match Zao (pth sc xs far) s with|some y=>.sub p y|none=>.bad))
noncomputable def ZTp(v s:Expr):CE:=match s with
 | .Slice l u t _=>(match t with|none=>slC sc xs f v l u|some _=>.bad)
 |s=>ZEw sc xs f v s
noncomputable def glo(p:Option Pa):Option MV:=p.bind λp=>match p with
 | .g j=>(nth Xw j).map (·.2)
 |_=>none
noncomputable def ZPw(a:Nat)(es:List Expr):CE:=match TT.fn a with
 |some fn=>.fn a (Xy (pth sc xs far) f fn.pols es)
 |none=>(match TT.meth a "__init__" with
  |some i=>(match TT.fn i with
   |some fn=>.cls a i (Xy (pth sc xs far) f fn.pols.tail es)
   |none=>.bad)
  |none=>.bad)
noncomputable def ZTx(es:List Expr):CE:=match es with
 |e::r=>(match r with| []=>(match pth sc xs far e with|some p=>.lenP p|none=>.lenE (f e))|_=>.bad)
 | []=>.bad
noncomputable def ZSp(v:Value)(es:List Expr):CE:=match v with
 | .builtin b=>if b="len" then ZTx sc xs f es else .bi b (Xs f es)
 | .type t=>.ty t (Xs f es)
 | .ref a=>ZPw sc xs f a es
 |_=>.bad
noncomputable def fnC(x:Str)(es:List Expr):CE:=match Zog sc xs x with
 |some p=>(match p with| .v i=>.fnv i (Xy (pth sc xs far) f [] es)| .g j=>(match(nth Xw j).map (·.2)with|some m=>(match m with| .con v=>ZSp sc xs f v es|_=>.bad)|none=>.bad)|_=>.bad)
 |none=>.bad
noncomputable def ZTa(b:Expr)(es:List Expr):CE:=match es with
 |e::r=>(match r with| []=>(match pth sc xs far b with|some p=>(match p with| .v j=>.app (.v j) (f e)|p=>(match Zao (pth sc xs far) e with|some y=>.app p y|none=>.bad))|none=>.bad)|_=>.bad)
 | []=>.bad
noncomputable def ZQk(b:Expr)(es:List Expr):CE:=match es with
 | []=>(match pth sc xs far b with|some p=>.pop p|none=>.bad)
 |_=>.bad
noncomputable def ZSk:Expr->Option (List (MV×MV))
 | .Dict ks vs _=>bif ks.isEmpty then none else Zcg ks vs
 |_=>none
noncomputable def ZRx(b:Expr)(es:List Expr):CE:=match ZSk b with
 |some l=>.lit l (Xs f es)
 |none=>(match pth sc xs far b with|some p=>.get p (Xs f es)|none=>.bad)
noncomputable def ZNf(a:Str):Option Nat:=(Zwm.find? λp=>(p.2.lookup a).isSome).map (·.1)
noncomputable def ZQt(b:Expr)(a:Str)(es:List Expr):CE:=match nmE b with
 |some x=>(match Zog sc xs x with|some p=>(match p with| .v i=>(match ZNf a with|some cl=>(match TT.meth cl a with|some g=>(match TT.fn g with|some fn=>.meth i a cl g (Xy (pth sc xs far) f fn.pols.tail es)|none=>.bad)|none=>.bad)|none=>.bad)|_=>.bad)|none=>.bad)
 |none=>.bad
noncomputable def ZPe(b:Expr)(a:Str)(es:List Expr):CE:=if a="append" then ZTa sc xs f b es else if a="pop" then ZQk sc xs b es else if a="get" then ZRx sc xs f b es else ZQt sc xs f b a es
noncomputable def ZSs(g:Expr)(es:List Expr)(ks:List Keyword)(pos:Pos):CE:=bif ks.isEmpty&&!es.any Zd&&decide (es.length < 30)then(match g with| .Name x _=>fnC sc xs f x es| .Attribute b a ap=>bif ap.endLine==pos.line then ZPe sc xs f b a es else .bad|_=>.bad)else .bad
end
section
variable{c:Cx}{sc:Sc}{E:Prop}{N:Nat}{e b v s g:Expr}{x y z:CE}{f:Expr->CE}{es:List Expr}{a xn:Str}{pos xp ap:Pos}{l u:Option Expr}{ks:List Keyword}
theorem ZQp(B:Blk c sc){x:Str}:OkE c E N (.Name x pos) (nmC sc c.xs (.Name x pos)):=by
 unfold nmC
 cases h:pth sc c.xs far (.Name x pos)with
 |none=>exact .bad
 |some p=>exact .plain B ((ZCl B h).gv B) rfl
theorem ZJf(B:Blk c sc)(hb:ZEy b=true)(he:OkE c E N b x):OkE c E N (.Attribute b a pos) (.sat x a):=by
 cases b with
 |Subscript v s p=>
  refine .plain B (λσ Q w Γ q I Qv Ev K R=>Attribute_any_ (he.v q I (λw v o σ q I=>?_) R)) rfl
  obtain⟨o',h,q⟩:=Zo (Ye q)
  have I:=I.frz B.toBeg
  obtain⟨u,h1,_,h2⟩:=Zpo (w:=fz w _) B I.iv (o:=.f o.frz) I.st.1 h
  obtain⟨m',rfl⟩:∃m',o'=.f m':=by
   cases o' with
   |f m=>exact⟨m,rfl⟩
   |l _=>exact(ZBd h).elim λ_ h=>h.elim λ_ h=>h.elim λ_ h=>nomatch h.1
   |o _ _=>exact(Zjy h).elim
  exact h2 (tk:=w.s.toks) λt=>K {fz w _ with s:={w.s with toks:=t}} u _ σ q ((I.pop.put h1).tok B.toBeg t)
 |_=>exact nf hb
theorem ZNr(B:Blk c sc)(hf:∀e,OkE c E N e (f e)):OkE c E N (.Attribute b a pos) (ZSx sc c.xs f b (.Attribute b a pos) a):=by
 unfold ZSx
 cases h:pth sc c.xs far (.Attribute b a pos)with
 |some p=>exact .plain B ((ZCl B h).gv B) rfl
 |none=>
  cases hb:ZEy b with
  |true=>exact ZJf B hb (hf b)
  |false=>exact .bad
theorem ZPq(B:Blk c sc)(hf:∀e,OkE c E N e (f e)){p:Pos}:OkE c E N (.Subscript v (.Slice l u none p) pos) (slC sc c.xs f v l u):=by
 unfold slC
 cases h:pth sc c.xs far v with
 |none=>exact ZJb B hf
 |some q=>
  have go:OkE c E N (.Subscript v (.Slice l u none p) pos) (match Zfd (pth sc c.xs far) l with
   |some x=>(match Zfd (pth sc c.xs far) u with
    |some y=>.sl q x y
    |none=>.bad)
   |none=>.bad):=by
   cases h1:Zfd (pth sc c.xs far) l with
   |none=>exact .bad
   |some x=>cases h2:Zfd (pth sc c.xs far) u with
    |none=>exact .bad
    |some y=>exact ZJc B h h1 h2
  cases q with
  |v j=>exact ZJa B hf h
  |_=>exact go
theorem ZEv(B:Blk c sc)(hf:∀e,OkE c E N e (f e))(hs:Xi s=true):OkE c E N (.Subscript v s pos) (ZEw sc c.xs f v s):=by
 unfold ZEw
 cases h:pth sc c.xs far v with
 |none=>exact ZBy B hs (hf v) (hf s)
 |some q=>
  have go:OkE c E N (.Subscript v s pos) (match Zao (pth sc c.xs far) s with
   |some y=>.sub q y
   |none=>.bad):=by
   cases h1:Zao (pth sc c.xs far) s with
   |none=>exact .bad
   |some y=>exact ZBz B hs h (Zga B h1)
  cases q with
  |v j=>exact ZBx B hs h (hf s)
  |_=>exact go
theorem ZIv(B:Blk c sc)(hf:∀e,OkE c E N e (f e)):OkE c E N (.Subscript v s pos) (ZTp sc c.xs f v s):=by
 cases s with
 |Slice l u t p=>cases t with
  |none=>exact ZPq B hf
  |some _=>exact .bad
 |_=>exact ZEv B hf rfl
theorem ZJo(B:Blk c sc)(rm:RoomB c N)(hf:∀e,OkE c E N e (f e)){a:Nat}(hs:es.any Zd=false)(hx:sc.lookup xn=some .globalImplicit)(hg:TT.glob xn=some (.con (.ref a))):GV c E (eval (.Call (.Name xn xp) es [] pos) c.env) ((mg N (ZPw sc c.xs f a es)).e E):=by
 unfold ZPw
 cases h:TT.fn a with
 |some fn=>exact ZFt B rm hf hs hx hg h
 |none=>cases hi:TT.meth a "__init__" with
  |none=>exactλ_ _ _ _ h=>h.elim
  |some i=>
   show GV c E _ ((mg N (match TT.fn i with
    |some fn=>CE.cls a i (Xy (pth sc c.xs far) f fn.pols.tail es)
    |none=>.bad)).e E)
   cases hfi:TT.fn i with
   |none=>exactλ_ _ _ _ h=>h.elim
   |some fn=>exact Zyk B rm hf hs hx hg h hi
theorem ZEk(B:Blk c sc)(hf:∀e,OkE c E N e (f e))(hs:es.any Zd=false)(hx:sc.lookup xn=some .globalImplicit)(hg:TT.glob xn=some (.con (.builtin "len"))):GV c E (eval (.Call (.Name xn xp) es [] pos) c.env) ((mg N (ZTx sc c.xs f es)).e E):=by
 cases es with
 |nil=>exactλ_ _ _ _ h=>h.elim
 |cons e r=>cases r with
  |cons _ _=>exactλ_ _ _ _ h=>h.elim
  |nil=>
   have he:=(Bool.or_eq_false_iff.mp (show(Zd e||List.any [] Zd)=false from hs)).1
   show GV c E _ ((mg N (match pth sc c.xs far e with
    |some p=>CE.lenP p
    |none=>.lenE (f e))).e E)
   cases h:pth sc c.xs far e with
   |some p=>exact Zrm B h he hx hg
   |none=>exact Zrn B (hf e) he hx hg
theorem ZNb(B:Blk c sc)(rm:RoomB c N)(hf:∀e,OkE c E N e (f e)){v:Value}(hs:es.any Zd=false)(hx:sc.lookup xn=some .globalImplicit)(hg:TT.glob xn=some (.con v)):GV c E (eval (.Call (.Name xn xp) es [] pos) c.env) ((mg N (ZSp sc c.xs f v es)).e E):=by
 cases v with
 |builtin b=>
  unfold ZSp
  by_cases h:b="len"
  .subst h;simp only[if_pos rfl];exact ZEk B hf hs hx hg
  .simp only[if_neg h];exact ZGv B rm hf hs hx hg
 |type t=>exact ZBo B hf hs hx hg
 |ref a=>exact ZJo B rm hf hs hx hg
 |_=>exactλ_ _ _ _ h=>h.elim
theorem ZMl(B:Blk c sc)(rm:RoomB c N)(hf:∀e,OkE c E N e (f e))(hs:es.any Zd=false):GV c E (eval (.Call (.Name xn xp) es [] pos) c.env) ((mg N (fnC sc c.xs f xn es)).e E):=by
 unfold fnC
 cases h:Zog sc c.xs xn with
 |none=>exactλ_ _ _ _ h=>h.elim
 |some p=>cases p with
  |fd _ _=>exactλ_ _ _ _ h=>h.elim
  |v i=>exact Zxi (n:=far) B rm hf hs h
  |g j=>
   rcases Zki h with⟨k,h1,h2,h3⟩|⟨k,_,_,h3⟩
   .cases h3
    cases hg:nth Xw j with
    |none=>exactλσ Q w Γ q=>False.elim (by simp only[hg]at q;exact q)
    |some p=>
     obtain⟨px,m⟩:=p
     cases m with
     |con v=>
      simp only[hg]
      exact ZNb B rm hf hs h1 (Zsi h2 hg)
     |_=>exactλσ Q w Γ q=>False.elim (by simp only[hg]at q;exact q)
   .cases h3
theorem ZHb(B:Blk c sc)(hf:∀e,OkE c E N e (f e))(hs:es.any Zd=false)(hline:(ap.endLine==pos.line)=true):GV c E (eval (.Call (.Attribute b "append" ap) es [] pos) c.env) ((mg N (ZTa sc c.xs f b es)).e E):=by
 cases es with
 |nil=>exactλ_ _ _ _ h=>h.elim
 |cons e r=>cases r with
  |cons _ _=>exactλ_ _ _ _ h=>h.elim
  |nil=>
   have he:=(Bool.or_eq_false_iff.mp (show(Zd e||List.any [] Zd)=false from hs)).1
   unfold ZTa
   dsimp only
   cases h:pth sc c.xs far b with
   |none=>exactλ_ _ _ _ h=>h.elim
   |some p=>
    have go:GV c E (eval (.Call (.Attribute b "append" ap) [e] [] pos) c.env) ((mg N (match Zao (pth sc c.xs far) e with
     |some y=>.app p y
     |none=>.bad)).e E):=by
     cases h1:Zao (pth sc c.xs far) e with
     |none=>exactλ_ _ _ _ h=>h.elim
     |some y=>exact Ybc B he hline h (Zga B h1)
    cases p with
    |v j=>exact Ybb B he hline h (hf e)
    |_=>exact go
theorem ZDc(B:Blk c sc)(hline:(ap.endLine==pos.line)=true):GV c E (eval (.Call (.Attribute b "pop" ap) es [] pos) c.env) ((mg N (ZQk sc c.xs b es)).e E):=by
 cases es with
 |cons _ _=>exactλ_ _ _ _ h=>h.elim
 |nil=>
  unfold ZQk
  dsimp only
  cases h:pth sc c.xs far b with
  |none=>exactλ_ _ _ _ h=>h.elim
  |some p=>exact ZKe B hline h
theorem ZMw{l:List (MV×MV)}(h:ZSk b=some l):∃ks vs p,b=.Dict ks vs p/\Zcg ks vs=some l/\ks≠[]:=by
 cases b with
 |Dict ks vs p=>cases ks with
  |nil=>exact ns h
  |cons k ks=>exact⟨_,_,_,rfl,h,nofun⟩
 |_=>exact ns h
theorem ZFm(B:Blk c sc)(hf:∀e,OkE c E N e (f e))(hs:es.any Zd=false)(hn:es.length < 30)(hline:(ap.endLine==pos.line)=true):GV c E (eval (.Call (.Attribute b "get" ap) es [] pos) c.env) ((mg N (ZRx sc c.xs f b es)).e E):=by
 unfold ZRx
 cases h:ZSk b with
 |some l=>
  obtain⟨ks,vs,p,rfl,hl,h0⟩:=ZMw h
  exact ZLk B hf hs hn hline hl h0
 |none=>cases hp:pth sc c.xs far b with
  |none=>exactλ_ _ _ _ h=>h.elim
  |some p=>exact ZMd B hf hs hn hline hp
theorem ZDx(B:Blk c sc)(rm:RoomB c N)(hf:∀e,OkE c E N e (f e))(hs:es.any Zd=false)(hn:es.length < 30)(hline:(ap.endLine==pos.line)=true):GV c E (eval (.Call (.Attribute b a ap) es [] pos) c.env) ((mg N (ZQt sc c.xs f b a es)).e E):=by
 unfold ZQt
 cases hb:nmE b with
 |none=>exactλ_ _ _ _ h=>h.elim
 |some x=>
  dsimp only
  obtain⟨xp,rfl⟩:=Zhe hb
  cases h:Zog sc c.xs x with
  |none=>exactλ_ _ _ _ h=>h.elim
  |some p=>cases p with
   |v i=>
    dsimp only
    cases hc:ZNf a with
    |none=>exactλ_ _ _ _ h=>h.elim
    |some cl=>
     dsimp only
     cases hm:TT.meth cl a with
     |none=>exactλ_ _ _ _ h=>h.elim
     |some g=>
      dsimp only
      cases hg:TT.fn g with
      |none=>exactλ_ _ _ _ h=>h.elim
      |some fn=>exact Zrb (n:=far) B rm hf hs hn hline h hm hg
   |_=>exactλ_ _ _ _ h=>h.elim
theorem Zod{g:Expr}{pos:Pos}{env:Env}:isTrue (.Call g es ks pos) env (eval (.Call g es ks pos) env)=(do let v <- eval (.Call g es ks pos) env;standAt (Expr.Call g es ks pos).pos;holding [v] (truthy v)):=rfl
theorem ZGr(B:Blk c sc)(rm:RoomB c N)(hf:∀e,OkE c E N e (f e)):OkE c E N (.Call g es ks pos) (ZSs sc c.xs f g es ks pos):=.plain B (by
 unfold ZSs
 cases hc:(ks.isEmpty&&!es.any Zd&&decide (es.length < 30))with
 |false=>exactλ_ _ _ _ h=>h.elim
 |true=>
  obtain⟨h12,h3⟩:=Bool.and_eq_true_iff.mp hc
  obtain⟨h1,h2⟩:=Bool.and_eq_true_iff.mp h12
  obtain rfl:=List.isEmpty_iff.mp h1
  have hs:es.any Zd=false:=by simpa using h2
  have hn:=of_decide_eq_true h3
  cases g with
  |Name x xp=>exact ZMl B rm hf hs
  |Attribute b a ap=>
   show GV c E _ ((mg N (bif ap.endLine==pos.line then ZPe sc c.xs f b a es else .bad)).e E)
   cases hl:ap.endLine==pos.line with
   |false=>exactλ_ _ _ _ h=>h.elim
   |true=>
    show GV c E _ ((mg N (ZPe sc c.xs f b a es)).e E)
    unfold ZPe
    by_cases q1:a="append"
    .rw[if_pos q1,q1];exact ZHb B hf hs hl
    rw[if_neg q1]
    by_cases q2:a="pop"
    .rw[if_pos q2,q2];exact ZDc B hl
    rw[if_neg q2]
    by_cases q3:a="get"
    .rw[if_pos q3,q3];exact ZFm B hf hs hn hl
    rw[if_neg q3]
    exact ZDx B rm hf hs hn hl
  |_=>exactλ_ _ _ _ h=>h.elim) Zod
end
end
section
open PySem.Calls
noncomputable def ZLg{α β:Type}(g:α->Option β):List α->Option (List β)
 | []=>some []
 |a::r=>(g a).bind λb=>(ZLg g r).map (b::·)
theorem ZAf{α β:Type}{g:α->Option β}{l:List α}:∀{k:List β},ZLg g l=some k->l.map g=k.map some:=by
 induction l with
 |nil=>exactλh=>by cases h;rfl
 |cons a r ih=>exactλh=>Zh h λb e h=>Zp h λq e2 e3=>by rw[<- e3,List.map_cons,List.map_cons,e,ih e2]
section
variable(sc:Sc)(xs:List Str)(pn:List Nat)(fx:Bool)(f:Expr->CE)
noncomputable def Zwt(x:Str)(es:List Expr)(e:Expr):CE:=match glo (Zog sc xs x)with
 |some m=>(match m with
  | .con v=>(match v with
   | .type t=>bif t=="list" then .ite (f e)else bif es.any Zd then .bad else .itc t (Xs f es)
   |_=>.ite (f e))
  |_=>.ite (f e))
 |none=>.ite (f e)
noncomputable def Zlo(e:Expr):Option (Str×List Expr):=match e with
 | .Call g es ks _=>bif ks.isEmpty then(nmE g).map (·,es)else none
 |_=>none
noncomputable def iC(e:Expr):CE:=match Zlo e with
 |some p=>Zwt sc xs f p.1 p.2 e
 |none=>bif Zdg e then .bad else .ite (f e)
noncomputable def Zus:CE->Bool
 | .itc t _=>ZBq t
 |_=>false
structure CD where
 (t it:Expr)
 (ifs:List Expr)
 (fv:List Nat)
 bd:Bd
noncomputable def Zob(gens:List Comprehension)(s:Scope):Option CD:=match gens with
 | []=>none
 |g::r=>if(r.isEmpty&&Zff sc s)=true/\g.is_async=0/\(Xb s.names++Zav s.names).Nodup then(ZLg (Zur · xs) (Xb s.names)).bind λfv=>(bdC (Zgt sc s.names) (Xb s.names++Zav s.names) (List.range fv.length) true g.target).map λbd=>⟨g.target,g.iter,g.ifs,fv,bd⟩else none
noncomputable def Zia(ff:Sc->List Str->Expr->CE)(elt:Expr)(gens:List Comprehension)(s:Scope):CE:=match Zob sc xs gens s with
 |some d=>bif !Zus (iC sc xs f d.it)||Xv d.t then .comp (ff (Zgt sc s.names) (Xb s.names++Zav s.names) elt) d.bd (iC sc xs f d.it) (Ztn (ff (Zgt sc s.names) (Xb s.names++Zav s.names)) d.ifs) d.fv (Zav s.names).length else .bad
 |none=>.bad
end
noncomputable def eC:Nat->Sc->List Str->Expr->CE
 |0,_,_,_=>.bad
 |n+1,sc,xs,e=>match e with
  | .Constant k _ _=>ZMz k
  | .Name ..=>nmC sc xs e
  | .Attribute b a _=>ZSx sc xs (eC n sc xs) b e a
  | .BinOp l op r _=>.bin op (eC n sc xs l) (eC n sc xs r)
  | .UnaryOp op a _=>unC op (eC n sc xs a)
  | .BoolOp op es _=>Zid op (eC n sc xs) es
  | .IfExp t b o _=>.ife (eC n sc xs t) (eC n sc xs b) (eC n sc xs o)
  | .Compare l ops es _=>ZUg (pth sc xs far) (eC n sc xs) l ops es
  | .Tuple es _ _=>Znz .tup (eC n sc xs) es
  | .List es _=>Znz .lst (eC n sc xs) es
  | .Subscript v s _=>ZTp sc xs (eC n sc xs) v s
  | .ListComp elt gens s _=>Zia sc xs (eC n sc xs) (eC n) elt gens s
  | .Call g es ks p=>ZSs sc xs (eC n sc xs) g es ks p
  |_=>.bad
section
variable{c:Cx}{sc:Sc}{E:Prop}{N n:Nat}{e elt:Expr}{f:Expr->CE}{gens:List Comprehension}{s:Scope}{pos:Pos}{d:CD}
theorem Zfm(h:Zdg e=false):∀es k p,e≠.Set es k p:=λ_ _ _ q=>by rw[q]at h;cases h
theorem Zwu{p:Str×List Expr}(h:Zlo e=some p):∃xp q,e=.Call (.Name p.1 xp) p.2 [] q:=by
 cases e with
 |Call g es ks q=>
  cases ks with
  |cons _ _=>exact ns h
  |nil=>exact Zp (show(nmE g).map (·,es)=some p from h) λx e1 e2=>(Zhe e1).elim λxp e3=>⟨xp,q,by rw[<- e2,e3]⟩
 |_=>exact ns h
theorem ZMa{x:Str}{m:MV}(h:glo (Zog sc c.xs x)=some m):sc.lookup x=some .globalImplicit/\TT.glob x=some m:=Zh h λp e h=>by
 cases p with
 |g j=>
  refine Zp (show(nth Xw j).map (·.2)=some m from h) λq e1 e2=>?_
  subst e2
  rcases Zki e with⟨k,h1,h2,h3⟩|⟨k,_,_,h3⟩
  .cases h3;exact⟨h1,Zsi h2 e1⟩
  .cases h3
 |_=>exact ns h
theorem ZFd(B:Blk c sc)(rm:RoomB c N)(hf:∀e,OkE c E N e (f e)):GI c E (Zus (iC sc c.xs f e)) (eval e c.env) ((mg N (iC sc c.xs f e)).i E):=by
 unfold iC
 cases h:Zlo e with
 |none=>cases Zdg e with
  |true=>exactλ_ _ _ _ h=>h.elim
  |false=>exact Zhm B rm.handled (hf e)
 |some p=>
  obtain⟨xp,q,rfl⟩:=Zwu h
  show GI c E (Zus (Zwt sc c.xs f p.1 p.2 _)) _ ((mg N (Zwt sc c.xs f p.1 p.2 _)).i E)
  unfold Zwt
  cases hg:glo (Zog sc c.xs p.1)with
  |none=>exact Zhm B rm.handled (hf _)
  |some m=>cases m with
   |con v=>cases v with
    |type t=>
     show GI c E (Zus (bif t=="list" then CE.ite (f _)else bif p.2.any Zd then CE.bad else .itc t (Xs f p.2))) _ ((mg N (bif t=="list" then CE.ite (f _)else bif p.2.any Zd then CE.bad else .itc t (Xs f p.2))).i E)
     cases t=="list" with
     |true=>exact Zhm B rm.handled (hf _)
     |false=>cases hs:p.2.any Zd with
      |true=>exactλ_ _ _ _ h=>h.elim
      |false=>exact ZLt B rm.handled hf hs (ZMa hg).1 (ZMa hg).2
    |_=>exact Zhm B rm.handled (hf _)
   |_=>exact Zhm B rm.handled (hf _)
theorem ZUc(h:Zlo e=none->Zdg e=false):∀es k p,e≠.Set es k p:=λes k p q=>by
 have:=h (by rw[q];rfl)
 rw[q]at this;cases this
theorem Zjw(h:Zob sc c.xs gens s=some d):gens=[⟨d.t,d.it,d.ifs,0⟩]/\Zac sc s/\(Xb s.names).map (Zur · c.xs)=d.fv.map some/\(Xb s.names++Zav s.names).Nodup/\bdC (Zgt sc s.names) (Xb s.names++Zav s.names) (List.range d.fv.length) true d.t=some d.bd:=by
 cases gens with
 |nil=>exact ns h
 |cons g r=>
  unfold Zob at h
  by_cases q:(r.isEmpty&&Zff sc s)=true/\g.is_async=0/\(Xb s.names++Zav s.names).Nodup
  .simp only[if_pos q]at h
   refine Zh h λfv e1 h=>Zp h λbd e2 e3=>?_
   subst e3
   obtain⟨q1,q2,q3⟩:=q
   obtain⟨q1,q4⟩:=Bool.and_eq_true_iff.mp q1
   obtain rfl:=List.isEmpty_iff.mp q1
   obtain⟨_,_,_,_⟩:=g
   cases q2
   exact⟨rfl,Zne q4,ZAf e1,q3,e2⟩
  .simp only[if_neg q]at h;exact ns h
theorem Ztp{ff:Sc->List Str->Expr->CE}(hff:∀{c:Cx} {sc:Sc},Blk c sc->RoomB c N->∀e,OkE c False N e (ff sc c.xs e))(h:Zob sc c.xs gens s=some d):Zup sc c N s d.fv (Zav s.names).length d.t d.bd elt d.ifs (Ztn (ff (Zgt sc s.names) (Xb s.names++Zav s.names)) d.ifs) (ff (Zgt sc s.names) (Xb s.names++Zav s.names) elt):=by
 obtain⟨_,O,h1,h2,h3⟩:=Zjw h
 exact⟨O,h1,h2,h3,λc' B R e _ _=>⟨e▸hff B R elt,e▸ZGm λe=>hff B R e⟩⟩
theorem ZAo(hq:Zdg e=true):iC sc c.xs f e=.bad:=by
 cases e with
 |Set=>rfl
 |_=>exact nf hq
theorem Zyj(B:Blk c sc)(rm:RoomB c N){ff:Sc->List Str->Expr->CE}(hff:∀{c:Cx} {sc:Sc},Blk c sc->RoomB c N->∀e,OkE c False N e (ff sc c.xs e))(hf:∀e,OkE c E N e (f e)):OkE c E N (.ListComp elt gens s pos) (Zia sc c.xs f ff elt gens s):=by
 unfold Zia
 cases h:Zob sc c.xs gens s with
 |none=>exact .bad
 |some d=>
  dsimp only
  cases ht:(!Zus (iC sc c.xs f d.it)||Xv d.t)with
  |false=>exact .bad
  |true=>
   rw[(Zjw h).1]
   cases hs:Zdg d.it with
   |true=>
    have e:=ZAo (c:=c) (sc:=sc) (f:=f) hs
    rw[e]
    exact⟨λ_ _ _ _ h=>h.elim,λ_ _ _ _ h=>h.elim⟩
   |false=>exact ZGn B rm (Zfm hs) (Ztp hff h) (λq=>(Bool.or_eq_true_iff.mp ht).resolve_left (by rw[q];decide)) (ZFd B rm hf)
theorem Zdk:∀n {c:Cx} {sc:Sc} {E:Prop},Blk c sc->RoomB c N->∀e,OkE c E N e (eC n sc c.xs e):=λn=>by
 induction n with
 |zero=>exactλ_ _ _=>.bad
 |succ n ih=>
  intro c sc E B rm e
  have hf:=ih (E:=E) B rm
  cases e with
  |Constant k _ _=>exact ZMy B
  |Name x p=>exact ZQp B
  |Attribute b a p=>exact ZNr B hf
  |BinOp l op r p=>exact ZNo B (hf l) (hf r)
  |UnaryOp op a p=>exact ZPj B (hf a)
  |BoolOp op es p=>exact ZGu hf
  |IfExp t b o p=>exact ZLz (hf t) (hf b) (hf o)
  |Compare l ops es p=>exact ZNe B rm.hu hf
  |Tuple es k p=>exact ZIh B hf
  |List es p=>exact ZLi B hf
  |Subscript v s p=>exact ZIv B hf
  |ListComp elt gens s p=>exact Zyj B rm (λB rm=>ih B rm) hf
  |Call g es ks p=>exact ZGr B rm hf
  |_=>exact .bad
end
end
section
open PySem.Calls
section
variable(sc:Sc)(xs:List Str)(pn:List Nat)(fx:Bool)(f:Expr->CE)
noncomputable def tfC(b:Expr)(a:Str):CE:=match nmE b with
 |some _=>(match pth sc xs far b with|some p=>(match p with| .v i=>.tf i a|_=>.bad)|none=>.bad)
 |none=>.bad
noncomputable def tsC(b s:Expr):CE:=match pth sc xs far b with
 |some p=>(match p with| .v j=>.sub (.v j) (f s)|p=>(match Zao (pth sc xs far) s with|some y=>.sub p y|none=>.bad))
 |none=>.bad
noncomputable def tnC(x:Str):CE:=match tgt sc xs pn fx x with
 |some i=>.tn i
 |none=>.bad
noncomputable def tgC(t:Expr):CE:=match t with
 | .Name x _=>tnC sc xs pn fx x
 | .Attribute b a _=>tfC sc xs b a
 | .Subscript b s _=>tsC sc xs f b s
 |_=>.bad
noncomputable def lcE(e:Expr):Option Scope:=match e with
 | .ListComp _ _ s _=>some s
 |_=>none
noncomputable def swW(t e:Expr):Bool:=match lcE e with
 |some s=>(match nmE t with|some x=>sc.lookup x==some .local&&t.pos.line==e.pos.line&&!(s.names.any λp=>p.1==x&&(p.2==.local||p.2==.cell))|none=>false)
 |none=>false
noncomputable def mvC(t e:Expr):Option CE:=match t with
 | .Attribute b a _=>(nmE b).bind λ_=>(pth sc xs far b).bind λp=>match p with
  | .v i=>(nmE e).bind λ_=>(pth sc xs far e).bind λq=>match q with
   | .v j=>some (.asN i a j)
   |_=>none
  |_=>none
 |_=>none
noncomputable def asV(x:Str)(e:Expr):CE:=match tgt sc xs pn fx x with
 |some i=>bif Xf e||(lcE e).isSome then .as (.tn i) (f e)else .bad
 |none=>.bad
noncomputable def ZSy(t e:Expr):CE:=match mvC sc xs t e with
 |some y=>y
 |none=>(match nmE t with|some x=>asV sc xs pn fx f x e|none=>bif Zrx t&&!Xv t&&Xf e then .as (tgC sc xs pn fx f t) (f e)else .bad)
noncomputable def prC(ts es:List Expr):CE:=bif !es.any Zd&&!ts.any Zd&&decide (es.length<=Zb)&&ts.length==es.length then(match Zmt sc ts es with|none=>.bad|some o=>(match o with|none=>.asT (ZIo (tgC sc xs pn fx f) ts) (Xs f es)|some ns=>(match ZLg (tgt sc xs pn fx) ns.reverse with|some is=>bif ns.length==es.length then .asX is (Xs f es)else .bad|none=>.bad)))else .bad
noncomputable def asC(t e:Expr):CE:=match Zzg t with
 |none=>ZSy sc xs pn fx f t e
 |some ts=>(match Zzg e with|some es=>prC sc xs pn fx f ts es|none=>(match tgs sc xs pn fx ts with|some is=>bif Xf e then .as (.tt is) (f e)else .bad|none=>.bad))
end
mutual
noncomputable def stC(m:Nat)(sc:Sc)(xs:List Str)(pn:List Nat)(fx:Bool):Nat->Stmt->CE
 |0,_=>.bad
 |n+1,s=>match s with
  | .Expr e _=>bif Xf e then .ex (eC m sc xs e)else .bad
  | .Pass _=>.pass
  | .Continue _=>.cont
  | .Return o _=>(match o with|some e=>.ret (eC m sc xs e)|none=>.bad)
  | .Assign ts e _=>(match ts with|t::r=>bif r.isEmpty then asC sc xs pn fx (eC m sc xs) t e else .bad| []=>.bad)
  | .If t b o _=>.ifs (eC m sc xs t) (bkC m sc xs pn fx n b) (bkC m sc xs pn fx n o)
  | .While t b o _=>bif o.isEmpty then .whl (eC m sc xs t) (bkC m sc xs pn fx n b)else .bad
  | .For t it b o _=>bif o.isEmpty&&!Zdg it&&(!Zus (iC sc xs (eC m sc xs) it)||Xv t)then(match bdC sc xs pn fx t with|some bd=>.each bd (iC sc xs (eC m sc xs) it) (bkC m sc xs pn fx n b)|none=>.bad)else .bad
  |_=>.bad
noncomputable def bkC(m:Nat)(sc:Sc)(xs:List Str)(pn:List Nat)(fx:Bool):Nat->List Stmt->CE
 |0,_=>.bad
 |n+1,l=>match l with
  | []=>.nil
  |s::r=>.cons (stC m sc xs pn fx n s) (bkC m sc xs pn fx n r)
end
section
variable{c:Cx}{sc:Sc}{E:Prop}{N n m:Nat}{e t:Expr}{f:Expr->CE}{pos:Pos}{y:CE}{ts es:List Expr}
theorem GG.bad:GG c E t λo σ K=>(mg N .bad).g o E σ K:=λ_ _ _ _ _ _ h=>h.elim
theorem GS.bad{tree:Sem Flow}:GS c E tree ((mg N .bad).s E):=λ_ _ _ _ h=>h.elim
theorem ZIj(B:Blk c sc){x:Str}{p:Pos}:GG c E (.Name x p) λo σ K=>(mg N (tnC sc c.xs c.pn c.fix x)).g o E σ K:=by
 unfold tnC
 cases h:tgt sc c.xs c.pn c.fix x with
 |none=>exact .bad
 |some i=>exact ZBt B h
theorem ZIq(B:Blk c sc){b:Expr}{a:Str}{p:Pos}:GG c E (.Attribute b a p) λo σ K=>(mg N (tfC sc c.xs b a)).g o E σ K:=by
 unfold tfC
 cases hb:nmE b with
 |none=>exact .bad
 |some x=>
  cases h:pth sc c.xs far b with
  |none=>exact .bad
  |some p=>cases p with
   |v i=>exact ZIp B h hb
   |_=>exact .bad
theorem ZIi(B:Blk c sc)(hf:∀e,OkE c E N e (f e)){b s:Expr}{p:Pos}:GG c E (.Subscript b s p) λo σ K=>(mg N (tsC sc c.xs f b s)).g o E σ K:=by
 unfold tsC
 cases h:pth sc c.xs far b with
 |none=>exact .bad
 |some q=>
  have go:GG c E (.Subscript b s p) λo σ K=>(mg N (match Zao (pth sc c.xs far) s with
   |some y=>.sub q y
   |none=>.bad)).g o E σ K:=by
   cases h1:Zao (pth sc c.xs far) s with
   |none=>exact .bad
   |some y=>exactλo σ K w Γ v q I na Q Ev H R=>ZPo B h (Zga B h1) q I H
  cases q with
  |v j=>exactλo σ K w Γ v q I na Q Ev H R=>ZPn B na h (hf s) q I H R
  |_=>exact go
theorem Zzi(B:Blk c sc)(hf:∀e,OkE c E N e (f e)):GG c E t λo σ K=>(mg N (tgC sc c.xs c.pn c.fix f t)).g o E σ K:=by
 cases t with
 |Name x p=>exact ZIj B
 |Attribute b a p=>exact ZIq B
 |Subscript b s p=>exact ZIi B hf
 |_=>exact .bad
theorem ZLa(B:Blk c sc)(h:mvC sc c.xs t e=some y):GS c E (PySem.exec (.Assign [t] e pos) c.env) ((mg N y).s E):=by
 cases t with
 |Attribute b a p=>
  refine Zh (show(nmE b).bind _=some y from h) λx e1 h=>Zh h λp e2 h=>?_
  cases p with
  |v i=>refine Zh h λz e3 h=>Zh h λq e4 h=>?_;exact(match q,e4,h with
   | .v j,e4,h=>by
    cases h
    obtain⟨zp,rfl⟩:=Zhe e3
    exact ZNy B e2 e1 e4 rfl rfl)
  |_=>exact ns h
 |_=>exact ns h
theorem ZIt(B:Blk c sc){s:Scope}{elt:Expr}{gens:List Comprehension}{p xp:Pos}{x:Str}{k:Nat}:swapsWith (.ListComp elt gens s p) (some (.Name x xp)) k c.env=pure (swW sc (.Name x xp) (.ListComp elt gens s p)):=by
 show(pure (c.env.blockKind==.function&&c.env.kindOf x==some .local&&xp.line==p.line&&!(s.names.any λq=>q.1==x&&(q.2==.local||q.2==.cell))):Sem Bool)=_
 rw[Zsw B,B.kind]
 rfl
theorem ZRh{s:Scope}(h:lcE e=some s):∃elt gens p,e=.ListComp elt gens s p:=by
 cases e with
 |ListComp elt gens s' p=>exact⟨elt,gens,p,by rw[Option.some.inj h]⟩
 |_=>exact ns h
theorem ZNz(B:Blk c sc)(rm:RoomB c N){i m:Nat}{elt:Expr}{gens:List Comprehension}{s:Scope}{x:Str}{xp p:Pos}(hi:tgt sc c.xs c.pn c.fix x=some i):GS c E (PySem.exec (.Assign [.Name x xp] (.ListComp elt gens s p) pos) c.env) ((mg N (.as (.tn i) (eC m sc c.xs (.ListComp elt gens s p)))).s E):=by
 have hsw:=ZIt (s:=s) (elt:=elt) (gens:=gens) (p:=p) (xp:=xp) (x:=x) (k:=pos.line) B
 cases hw:swW sc (.Name x xp) (.ListComp elt gens s p)with
 |false=>exact Zza rfl (hsw.trans (by rw[hw])) (Yh rfl rfl) (Zdk m B rm _) (ZBt B hi)
 |true=>
  rw[hw]at hsw
  have hx:sc.lookup x=some .local:=eq_of_beq (Bool.and_eq_true_iff.mp (Bool.and_eq_true_iff.mp (show(sc.lookup x==some .local&&xp.line==p.line&&_)=true from hw)).1).1
  cases m with
  |zero=>exactλσ Q w Γ q=>q.elim
  |succ m=>
   cases h:Zob sc c.xs gens s with
   |none=>
    intro σ Q w Γ q
    have q:(mg N (Zia sc c.xs (eC m sc c.xs) (eC m) elt gens s)).e E σ _:=q
    unfold Zia at q
    rw[h]at q;exact q.elim
   |some d=>
    have hc:Zia sc c.xs (eC m sc c.xs) (eC m) elt gens s=bif !Zus (iC sc c.xs (eC m sc c.xs) d.it)||Xv d.t then .comp (eC m (Zgt sc s.names) (Xb s.names++Zav s.names) elt) d.bd (iC sc c.xs (eC m sc c.xs) d.it) (Ztn (eC m (Zgt sc s.names) (Xb s.names++Zav s.names)) d.ifs) d.fv (Zav s.names).length else .bad:=by
     unfold Zia;rw[h]
    have hq:∀{y},Zia sc c.xs (eC m sc c.xs) (eC m) elt gens s=y->GS c E (PySem.exec (.Assign [.Name x xp] (.ListComp elt gens s p) pos) c.env) ((mg N (.as (.tn i) y)).s E)->GS c E (PySem.exec (.Assign [.Name x xp] (.ListComp elt gens s p) pos) c.env) ((mg N (.as (.tn i) (eC (m+1) sc c.xs (.ListComp elt gens s p)))).s E):=λe h=>by rw[<- e]at h;exact h
    cases ht:(!Zus (iC sc c.xs (eC m sc c.xs) d.it)||Xv d.t)with
    |false=>exact hq (y:=.bad) (hc.trans (by rw[ht];rfl)) λσ Q w Γ q=>q.elim
    |true=>
     refine hq (y:=.comp (eC m (Zgt sc s.names) (Xb s.names++Zav s.names) elt) d.bd (iC sc c.xs (eC m sc c.xs) d.it) (Ztn (eC m (Zgt sc s.names) (Xb s.names++Zav s.names)) d.ifs) d.fv (Zav s.names).length) (hc.trans (by rw[ht];rfl)) ?_
     have hg:=(Zjw h).1
     subst hg
     cases hs:Zdg d.it with
     |true=>
      rw[ZAo (c:=c) (sc:=sc) (f:=eC m sc c.xs) hs]
      exactλσ Q w Γ q=>q.elim
     |false=>exact Zyi B rm (Zfm hs) (Ztp (λB rm=>Zdk m B rm) h) (λq=>(Bool.or_eq_true_iff.mp ht).resolve_left (by rw[q];decide)) (ZFd B rm (Zdk m B rm)) hsw hi hx
theorem ZNv(B:Blk c sc)(rm:RoomB c N){m:Nat}{x:Str}{xp:Pos}:GS c E (PySem.exec (.Assign [.Name x xp] e pos) c.env) ((mg N (asV sc c.xs c.pn c.fix (eC m sc c.xs) x e)).s E):=by
 unfold asV
 cases hi:tgt sc c.xs c.pn c.fix x with
 |none=>exact .bad
 |some i=>
  dsimp only
  cases hc:(Xf e||(lcE e).isSome)with
  |false=>exact .bad
  |true=>
   rcases Bool.or_eq_true_iff.mp hc with h|h
   .exact Zza rfl (Zu h) (Yh rfl rfl) (Zdk m B rm e) (ZBt B hi)
   .obtain⟨s,hs⟩:=Option.isSome_iff_exists.mp h
    obtain⟨elt,gens,p,rfl⟩:=ZRh hs
    exact ZNz B rm hi
theorem ZGy(B:Blk c sc)(rm:RoomB c N){m:Nat}:GS c E (PySem.exec (.Assign [t] e pos) c.env) ((mg N (ZSy sc c.xs c.pn c.fix (eC m sc c.xs) t e)).s E):=by
 unfold ZSy
 cases hm:mvC sc c.xs t e with
 |some y=>exact ZLa B hm
 |none=>
  cases hn:nmE t with
  |some x=>
   obtain⟨xp,rfl⟩:=Zhe hn
   exact ZNv B rm
  |none=>
   dsimp only
   cases hc:(Zrx t&&!Xv t&&Xf e)with
   |false=>exact .bad
   |true=>
    obtain⟨h12,h3⟩:=Bool.and_eq_true_iff.mp hc
    obtain⟨h1,h2⟩:=Bool.and_eq_true_iff.mp h12
    exact Zza h1 (Zu h3) (Yh h1 (by rw[show Xv t=false by simpa using h2];rfl)) (Zdk m B rm e) (Zzi B (Zdk m B rm))
theorem ZKc(B:Blk c sc)(rm:RoomB c N)(hf:∀e,OkE c E N e (f e)){k k2:Nat}{p p2:Pos}:GS c E (PySem.exec (.Assign [.Tuple ts k p] (.Tuple es k2 p2) pos) c.env) ((mg N (prC sc c.xs c.pn c.fix f ts es)).s E):=by
 unfold prC
 cases hc:(!es.any Zd&&!ts.any Zd&&decide (es.length<=Zb)&&ts.length==es.length)with
 |false=>exact .bad
 |true=>
  simp only[Bool.and_eq_true,Bool.not_eq_true',decide_eq_true_eq,beq_iff_eq]at hc
  obtain⟨⟨⟨h1,h2⟩,h3⟩,h4⟩:=hc
  cases hw:Zmt sc ts es with
  |none=>exact .bad
  |some o=>cases o with
   |none=>exact ZNx B rm.handled hf (λt=>Zzi B hf) h1 h2 h3 h4 hw
   |some names=>
    dsimp only[cond_true]
    cases hi:ZLg (tgt sc c.xs c.pn c.fix) names.reverse with
    |none=>exact .bad
    |some is=>
     dsimp only
     cases hn:names.length==es.length with
     |false=>exact .bad
     |true=>exact ZNu B rm.handled hf h1 h3 (eq_of_beq hn) hw (ZAf hi)
theorem ZOa(B:Blk c sc)(rm:RoomB c N){m:Nat}:GS c E (PySem.exec (.Assign [t] e pos) c.env) ((mg N (asC sc c.xs c.pn c.fix (eC m sc c.xs) t e)).s E):=by
 have hf:=Zdk (N:=N) m (E:=E) B rm
 unfold asC
 cases ht:Zzg t with
 |none=>exact ZGy B rm
 |some ts=>
  obtain⟨k,p,rfl⟩:=Zoq ht
  cases he:Zzg e with
  |some es=>
   obtain⟨k2,p2,rfl⟩:=Zoq he
   exact ZKc B rm hf
  |none=>
   dsimp only
   cases hi:tgs sc c.xs c.pn c.fix ts with
   |none=>exact .bad
   |some is=>
    dsimp only
    cases hn:Xf e with
    |false=>exact .bad
    |true=>exact Zza rfl (Zu hn) (Yh rfl (by rw[<- ZBr (e:=e),he];rfl)) (hf e) (ZPk B rm.handled (by unfold bdC;rw[ht];show(tgs sc c.xs c.pn c.fix ts).map Bd.t=_;rw[hi];rfl))
theorem ZIy(n:Nat):∀{c:Cx} {sc:Sc},Blk c sc->Top c->RoomB c N->(∀s,GS c E (PySem.exec s c.env) ((mg N (stC m sc c.xs c.pn c.fix n s)).s E))/\∀l,GS c E (PySem.execs l c.env) ((mg N (bkC m sc c.xs c.pn c.fix n l)).s E):=by
 induction n with
 |zero=>exactλ_ _ _=>⟨λ_=>.bad,λ_=>.bad⟩
 |succ n ih=>
  intro c sc B tp rm
  have hf:=Zdk (N:=N) m (E:=E) B rm
  have hb:=(ih B tp rm).2
  refine⟨λs=>?_,λl=>?_⟩
  .cases s with
   |Expr e p=>
    show GS c E _ ((mg N (bif Xf e then .ex (eC m sc c.xs e)else .bad)).s E)
    cases hn:Xf e with
    |false=>exact .bad
    |true=>exact ZSf B (hf e) (Zu hn)
   |Pass p=>exact ZDi
   |Continue p=>exact ZGk
   |Return o p=>cases o with
    |none=>exact .bad
    |some e=>exact ZJn (hf e)
   |Assign ts e p=>cases ts with
    |nil=>exact .bad
    |cons t r=>cases r with
     |nil=>exact ZOa B rm
     |cons _ _=>exact .bad
   |If t b o p=>exact ZRt (hf t) (hb b) (hb o)
   |While t b o p=>cases o with
    |nil=>exact Zva B tp rm (hf t) (hb b)
    |cons _ _=>exact .bad
   |For t it b o p=>cases o with
    |cons _ _=>exact .bad
    |nil=>
     show GS c E _ ((mg N (bif true&&!Zdg it&&(!Zus (iC sc c.xs (eC m sc c.xs) it)||Xv t)then(match bdC sc c.xs c.pn c.fix t with
      |some bd=>.each bd (iC sc c.xs (eC m sc c.xs) it) (bkC m sc c.xs c.pn c.fix n b)
      |none=>.bad)else .bad)).s E)
     cases hc:(true&&!Zdg it&&(!Zus (iC sc c.xs (eC m sc c.xs) it)||Xv t))with
     |false=>exact .bad
     |true=>
      obtain⟨h1,h2⟩:=Bool.and_eq_true_iff.mp hc
      dsimp only[cond_true]
      cases hbd:bdC sc c.xs c.pn c.fix t with
      |none=>exact .bad
      |some bd=>exact ZMh B tp rm (Zfm (by simpa using h1)) hbd (λq=>(Bool.or_eq_true_iff.mp h2).resolve_left (by rw[q];decide)) (ZFd B rm hf) (hb b)
   |_=>exact .bad
  .cases l with
   |nil=>exact ZKu
   |cons s r=>exact ZGl ((ih B tp rm).1 s) (hb r)
end
end
section
open PySem.Calls
noncomputable abbrev Zcz(C:Addr)(od:Option Addr)(t:Addr):Obj:={cls:=.ref C,dict:=od,data:=.fields #[.ref t,.none,.none,.none,.bool false,.none]}
section
variable{prog:Program}{w:World}{A:Around}{E:Value->Shared->Prop}{h:Heap}{g:Array GenState}{d:Drawn}{t:Nat}{os:OsState}
variable{nm q:Str}{C N:Addr}{bs bm:List Value}{hdct:Bool}{sn:List Str}{sub:List Value}{ab:Bool}{col:Option Bool}{dd:Option Addr}{k0 k1 k2 k3 k5:Option Value}
theorem ZFx{R:Result->Shared->Prop}(hV:bm.contains (.type "ValueError")=true)(hA:bm.contains (.type "AttributeError")=false)(hN:bm.contains (.type "NameError")=false){rest:List Value}
  (hC:h.get? C=some (excClassObj nm q C N bs bm hdct sn sub ab col dd k0 k1 k2 k3 k5 "ValueError.__new__"))
  (hq:R (.ok (.ret (.ref (h.objs.size+1)))) ⟨(h.push {cls:=.type "tuple",data:=.seq rest.toArray}).push (Zcz C none h.objs.size),g,d,t,os⟩)(hrest:rest.length<=sizeLine):
  codeAny (model prog w) A (.builtin "ValueError.__new__" ⟨.ref C::rest,[]⟩) R ⟨h,g,d,t,os⟩:=by
 have Fn:=PySem.F.excBase_ValueError
 have hends:=Fn.ends
 have hcB:(Value.ref C::bm).contains (.type "ValueError")=true:=by rw[List.contains_cons,hV,Bool.or_true]
 have hcA:(Value.ref C::bm).contains (.type "AttributeError")=false:=by rw[List.contains_cons,hA];rfl
 have hcN:(Value.ref C::bm).contains (.type "NameError")=false:=by rw[List.contains_cons,hN];rfl
 refine codeAny_builtinAt Fn.entry ?_
 unfold Builtin.«BaseException.__new__»
 refine PySem.wpAt_bind ?_
 show PySem.wpAt _ _ _ (stack >>=_) _ _ _
 refine PySem.wpAt_bind (PySem.wpAt_stack λp below=>PySem.wpAt_of_wpAny ?_)
 wp_walk
 refine PySem.wpAt_of_wpAny ?_
 rw[Fn.owner]
 repeat (first|with_reducible refine wpAny_madeHere_exc Fn.canon hC ?_|with_reducible refine wpAny_loadPart_at hC ?_|(with_reducible refine wpAny_isSubtype_exc hC ?_;first|rw[hcB]|rw[hcA]|rw[hcN])|wp_step)
 show R _ _
 rw[Heap.size_push]
 exact hq
theorem Zxt{R:Result->Shared->Prop}(hV:bm.contains (.type "ValueError")=true){e t₀:Addr}{od:Option Addr}{rest:List Value}
  (hC:h.get? C=some (excClassObj nm q C N bs bm hdct sn sub ab col dd k0 k1 k2 k3 k5 "ValueError.__new__"))(he:h.get? e=some (Zcz C od t₀))(hrest:rest.length<=sizeLine)
  (hq:∀h',(∀b o,b≠e->h.get? b=some o->h'.get? b=some o)->h'.get? e=some (Zcz C od h.objs.size)->R (.ok (.ret .none)) ⟨h',g,d,t,os⟩):
  codeAny (model prog w) A (.call (.builtin "ValueError.__init__") ⟨.ref e::rest,[]⟩) R ⟨h,g,d,t,os⟩:=by
 have F:=PySem.F.excBase_ValueError
 have hcB:(Value.ref C::bm).contains (.type "ValueError")=true:=by rw[List.contains_cons,hV,Bool.or_true]
 have hshort:=F.noStar
 refine codeAny_call_builtin F.init.plain F.initEntry ?_
 simp only[checkBuiltinCall,F.initKind,F.initSplit,F.initRow]
 repeat (first|with_reducible refine wpAny_loadPart_at he ?_|with_reducible refine wpAny_loadPart_at hC ?_|(with_reducible refine wpAny_isSubtype_exc hC ?_;rw[hcB])|wp_step)
 refine wpAny_onRaise ?_
 rw[show∀(a b:String) (n:Nat),Bind.check ⟨.positional,"*","ValueError",.self,[⟨"args",.varPos,false⟩]⟩ a b n (List.map (λx=>x.fst) ({pos:=Value.ref e::rest}:Args).kw)=pure ()from
  λa b n=>check_star_args _ _ _ _ _ _]
 refine wpAny_pure ?_
 wp_walk
 show R _ _
 refine hq _ (λb o hb hbo=>?_) ?_
 .rw[Heap.get?_update_other _ _ hb.symm]
  exact Heap.get?_push_of_some _ hbo
 .rw[Heap.get?_update_self _ (Heap.get?_push_of_some _ he) rfl]
  rfl
theorem ZFw{K:Frag}{x t₀:Addr}{name:Str}{v:Value}{Q:Unit->Shared->Prop}{G:Addr}{cd:ClassData}(X:K.In h)
  (hcl:clsIn K C=some cd)(hm:cd.mro=[.ref C,.ref G,.type "ValueError",.type "Exception",.type "BaseException",.type "object"])(hhd:cd.hasDict=true)
  (hs:findIn K (.ref C) "__setattr__"=some (some (.builtin "object.__setattr__")))(ha:findIn K (.ref C) name=some none)(hx:h.get? x=some (Zcz C none t₀))
  (hq:∀h' tk' dx,(∀b o,b≠x->h.get? b=some o->h'.get? b=some o)->h'.get? x=some (Zcz C (some dx) t₀)->Q () ⟨h',g,d,tk',os⟩):
  wpAny (model prog w) A (setAttr (.ref x) name v) Q E ⟨h,g,d,t,os⟩:=by
 have SF:=PySem.F.store_ValueError
 have SO:=PySem.F.store_object
 have I:InstAt h x (Zcz C none t₀) C none:=⟨hx,rfl,rfl,trivial⟩
 refine set_plain X I hs ?_
 have sub:Looks (model prog w) h (isInstance (.ref x) (.type "object")) true:=I.type.andThen (looks_mroIn X (by unfold mroIn;rw[hcl,Option.bind_some,if_neg (by rw[hm];simp),hm];rfl))
 have hmro:Looks (model prog w) h (mroOf (.ref C)) cd.mro:=(looks_clsIn X hcl).andThen .now
 refine codeAny_call_builtin SO.slot.plain SO.entry (@check_slot (model prog w) _ _ _ "object.__setattr__" "object" "__setattr__" (.ref x) [.str name t,v] [] _ SO.kind SO.split sub (SO.args (.ref x) (.str name t) v) ?_)
 rw[osa_eq,PySem.refuse_eq]
 refine wpAny_bind (wpAny_bind (I.type.here (wpAny_bind (hmro.here ?_))))
 rw[hm,refuseLoop_ref,refuseLoop_ref,SF.passes]
 refine wpAny_pure (wpAny_bind (I.type.here (wpAny_bind ((looks_findIn X ha).here (wpAny_bind ?_)))))
 refine wpAny_pure ?_
 refine wpAny_bind (wpAny_pure (wpAny_bind (wpAny_bind (wpAny_loadPart hx (wpAny_bind ((looks_clsIn X hcl).here ?_))))))
 rw[hhd]
 have hx₁:(h.push {cls:=.type "dict",data:=.dict #[]}).get? x=some (Zcz C none t₀):=Heap.get?_push_of_some _ hx
 have hxs:x≠h.objs.size:=Nat.ne_of_lt (Heap.lt_size hx)
 refine wpAny_bind (wpAny_alloc' ?_)
 refine wpAny_bind (wpAny_update' hx₁ ?_)
 have hgd:((h.push {cls:=.type "dict",data:=.dict #[]}).update x λo=>{cls:=o.cls,dict:=some h.objs.size,data:=o.data,slots:=o.slots}).get? h.objs.size=some {cls:=.type "dict",data:=.dict #[]}:=
  (Heap.get?_update_ne _ _ _ _ hxs.symm).trans (Heap.get?_push_at rfl rfl)
 have hnd:((h.push {cls:=.type "dict",data:=.dict #[]}).update x λo=>{cls:=o.cls,dict:=some h.objs.size,data:=o.data,slots:=o.slots}).Ns h.objs.size (λ_=>none):=
  ⟨_,#[],_,hgd,rfl,λe he=>absurd he (by simp),λ_=>rfl⟩
 refine wpAny_pure ?_
 refine wpAny_bind ?_
 refine wpAny_pure ?_
 show wpAny _ _ (Builtin.ObjectAttr.storeInDict h.objs.size (.str name t) name v) _ _ _
 unfold Builtin.ObjectAttr.storeInDict Builtin.ObjectAttr.newKeyGuard
 refine wpAny_bind (wpAny_pure (wpAny_bind (wpAny_nsSet1 (Heap.Ns1.of_empty hnd) λh' hn' hs=>?_)))
 obtain⟨oD,esD,epD,hoD,hdD,hcD⟩:=hn'.count (Within.cons name v Within.nil)
 refine wpAny_bind (wpAny_lookBehind hoD (by rw[hdD];exact pastItsLine_dict (Nat.le_trans hcD (Nat.le_add_left 1 sizeLine))) ?_)
 refine wpAny_pure ?_
 refine hq h' _ h.objs.size (λb ob hbx hb=>?_) ?_
 .exact(hs.2 b (Nat.ne_of_lt (Heap.lt_size hb))).trans ((Heap.get?_update_ne _ _ _ _ hbx).trans (Heap.get?_push_of_some _ hb))
 .exact(hs.2 x hxs).trans (Heap.get?_update_self _ hx₁ rfl)
theorem Zxu{K:Frag}{R:Result->Shared->Prop}{i:Nat}(X:K.In h)(hV:bm.contains (.type "ValueError")=true)(hA:bm.contains (.type "AttributeError")=false)(hN:bm.contains (.type "NameError")=false){rest:List Value}
  (hC:h.get? C=some (excClassObj nm q C N bs bm hdct sn sub ab col dd k0 k1 k2 k3 k5 "ValueError.__new__"))(hi:findIn K (.ref C) "__init__"=some (some (.ref i)))(hf:typeIn K (.ref i)=some (.type "function"))(hrest:rest.length<=sizeLine)
  (hq:codeAny (model prog w) (A.under (.builtin "type.__call__" ⟨.ref C::rest,[]⟩)) (.call (.ref i) ⟨.ref (h.objs.size+1)::rest,[]⟩) (InitBack (h.objs.size+1) R) ⟨(h.push {cls:=.type "tuple",data:=.seq rest.toArray}).push (Zcz C none h.objs.size),g,d,t,os⟩):
  codeAny (model prog w) A (.call (.ref C) ⟨rest,[]⟩) R ⟨h,g,d,t,os⟩:=by
 have Fn:=PySem.F.excBase_ValueError
 have f1:=tc_lookup
 have f2:=tc_bind (.ref C)
 have hT:(⟨h,g,d,t,os⟩:Shared).TypeIs (.ref C) "type":=⟨_,hC,rfl⟩
 refine codeAny_of_tree ?_
 show wpAny _ _ (callAny (.ref C) _) _ _ _
 repeat (any_goals (first|assumption|with_reducible refine wpAny_loadPart_at hC ?_|wp_step))
 refine⟨rfl,?_⟩
 refine codeAny_call_builtin_at (Code.quiet_builtin _ (by decide+kernel)) entry_typeCall (wpAny_check_type_call_sub hC ?_)
 unfold Builtin.«type.__call__»
 repeat (first|with_reducible refine wpAny_loadPart_at hC ?_|with_reducible refine wpAny_madeBy_exc hC ?_|wp_step)
 refine codeAny_call_builtin_code (Code.quiet_builtin _ Fn.quiet) (wpAny_check_new_subU Fn hV .base hC ?_)
 refine ZFx (rest:=rest) hV hA hN hC ?_ hrest
 show wpAny _ _ _ _ _ _
 have kp:∀b o,h.get? b=some o->((h.push {cls:=.type "tuple",data:=.seq rest.toArray}).push (Zcz C none h.objs.size)).get? b=some o:=λb o e=>Heap.get?_push_of_some _ (Heap.get?_push_of_some _ e)
 have hC₁:=kp _ _ hC
 have hget:((h.push {cls:=.type "tuple",data:=.seq rest.toArray}).push (Zcz C none h.objs.size)).get? (h.objs.size+1)=some (Zcz C none h.objs.size):=by
  have:=Heap.get?_push_size (h.push {cls:=.type "tuple",data:=.seq rest.toArray}) (o:=Zcz C none h.objs.size) rfl
  rw[Heap.size_push]at this;exact this
 have hcC:(Value.ref C::bm).contains (.ref C)=true:=by simp
 have hget':((h.push {cls:=.type "tuple",data:=.seq rest.toArray}).push (Zcz C none h.objs.size)).get? (h.objs.size+1)=some {cls:=.ref C,dict:=none,data:=.fields #[.ref h.objs.size,.none,.none,.none,.bool false,.none]}:=hget
 unfold isInstance
 repeat (first|with_reducible refine wpAny_loadPart_at hget' ?_|(with_reducible refine wpAny_isSubtype_exc hC₁ ?_;rw[hcC])|wp_step)
 show wpAny _ _ (typeLookup (.ref C) _) _ _ _
 refine(looks_findIn X hi) _ _ _ _ kp ?_
 refine wpAny_holding (wpAny_bind ((bind_fn X _ hf) _ _ _ _ kp ?_))
 refine wpAny_bind (wpAny_call (codeAny_mono hq λr s' z=>?_))
 rcases r with e|(v|_|_|_) <;> first|exact z|exact z.elim|skip
 obtain⟨rfl,z⟩:=z
 exact wpAny_pure (wpAny_pure z)
theorem Ztc{M:Model}{env:Env}{s:Shared}{x:Sem Value}{Q:Flow->Shared->Prop}(hbase:bm.contains (.type "BaseException")=true)(hh:A.handled=none)
  (H:wpAny M A x (λv s₁=>∃e t od,v=.ref e/\s₁.heap.get? C=some (excClassObj nm q C N bs bm hdct sn sub ab col dd k0 k1 k2 k3 k5 "ValueError.__new__")/\s₁.heap.get? e=some (Zcz C od t)/\E (.ref e) s₁) E s):
  wpAny M A (raiseStmt env (some x) none) Q E s:=by
 have hcB:(Value.ref C::bm).contains (.type "BaseException")=true:=by rw[List.contains_cons,hbase,Bool.or_true]
 unfold raiseStmt
 refine wpAny_bind (wpAny_mono H (λv s₁ h₁=>?_) λ_ _ x=>x)
 obtain⟨e,t,od,rfl,hC,he,hE⟩:=h₁
 obtain⟨hp,g,d,tk,os⟩:=s₁
 have he':hp.get? e=some {cls:=.ref C,dict:=od,data:=.fields #[.ref t,.none,.none,.none,.bool false,.none]}:=he
 repeat (first|with_reducible refine wpAny_loadPart_at he' ?_|with_reducible refine wpAny_loadPart_at hC ?_|(with_reducible refine wpAny_isSubtype_exc hC ?_;rw[hcB])|wp_step)
 exact wpAny_raiseNew_none hh hE
end
end
section
set_option backward.match.sparseCases true
open PySem.Calls
theorem Zwz{s:Shared}{prog:Program}{w:World}{A:Around}{K:Frag}(X:K.In s.heap)(look:findCls K (.type "ValueError") (.type "type") "__init__"=some (.val (.builtin "ValueError.__init__"))){pl:Sem Bool}{Q:Value×List Value->Shared->Prop}{E:Value->Shared->Prop}(h:Q (.builtin "ValueError.__init__",[]) {s with toks:=s.toks+1}):wpAny (model prog w) A (getMethod (.type "ValueError") "__init__" pl) Q E s:=by
 have hstub:opaqueClassAbove (.type "ValueError")=pure none:=by unfold opaqueClassAbove;dsimp only;rw[show Manifest.isStub "ValueError"=false by decide+kernel];rfl
 have ht:typeOf (.type "ValueError")=pure (.type "type"):=by first|rfl|kernel_rfl
 have L0:Looks (model prog w) s.heap (typeOf (.type "ValueError")) (.type "type"):=Looks.of_pure ht
 have hg:findIn K (.type "type") "__getattribute__"=some (some (.builtin "type.__getattribute__")):=type_tga
 unfold getMethod specialOf
 refine wpAny_bind (wpAny_bind (L0.here ((looks_findIn X hg).here ?_)))
 dsimp only
 rw[if_pos canon_tga]
 refine wpAny_bind (wpAny_mono (Q:=λv=>Q (v,[])) (E:=E) ?_ (λ_ _ z=>wpAny_pure z) λ_ _ z=>z)
 have LO:Looks (model prog w) s.heap (opaqueClassAbove (.type "ValueError")) none:=Looks.of_pure hstub
 refine cls_open X LO L0 hg (looks_hook X (r:=none) (by rfl)) (by show subIn K _ _=_;rfl) look
  (wpAny_pure (by show wpAny _ _ (handedOut _) _ _ _;rw[handedOut_of (by decide+kernel)];exact wpAny_pure h))
section
variable{c:Cx}{sc:Sc}{w:Wd}{σ:Sg}{Γ:List En}{E:Prop}{N n i:Nat}{e:Addr}{t₀:Addr}{x:Str}{t:Tok}{fn:Fn}{f:Expr->CE}{K:Result->Shared->Prop}
theorem Zyw(B:Blk c sc)(I:Inv c w σ [])(n0:nth σ 0=some (some (.f (.con (.ref e)))))(n1:nth σ 1=some (some (.f (.str x))))(e1:c.xs=[("self":Str),("reason":Str)])(ks:sc.lookup ("self":Str)=some .local)(kr:sc.lookup ("reason":Str)=some .local)(kv:sc.lookup ("ValueError":Str)=some .globalImplicit)
  (he:w.s.heap.get? e=some (Zcz c.bad none t₀))(hW:w.W e=some (1,none)){p1 p2 p3 p4 p5 p6 p7 p8 p9 p10:Pos}(hline:(p2.endLine==p5.line)=true){Q:Flow->Shared->Prop}{Ev:Value->Shared->Prop}
  (H:∀h tk od t₁,(∀b o,b≠e->w.s.heap.get? b=some o->h.get? b=some o)->h.get? e=some (Zcz c.bad od t₁)->Q .next ⟨h,w.s.gens,w.s.drawn,tk,w.s.os⟩):
  wpAny c.M c.A (PySem.execs [.Expr (.Call (.Attribute (.Name "ValueError" p1) "__init__" p2) [.Name "self" p3,.Name "reason" p4] [] p5) p6,.Assign [.Attribute (.Name "self" p7) "reason" p8] (.Name "reason" p9) p10] c.env) Q Ev w.s:=by
 obtain⟨nm,q,N,bs0,G,sn,sub,ab,col,dd,k0,k1,k2,k3,k5,hC0,cd,hcl,hmro,hhd⟩:=B.bad.obj
 obtain⟨v0,s0,r0⟩:=I.en 0 _ n0
 obtain⟨v1,s1,r1⟩:=I.en 1 _ n1
 obtain rfl:v0=.ref e:=r0.1
 obtain⟨t1,rfl⟩:∃t,v1=.str x t:=r1
 obtain⟨vg,rg,go⟩:=Zt (pos:=p1) B I.iv kv B.bad.glob
 obtain rfl:vg=.type "ValueError":=rg.1
 have kh:=I.iv.hh B.toBeg
 refine wpAny_execs_cons (wpAny_Expr_any (Xx rfl rfl (Nat.le_of_ble_eq_true rfl) hline (go (tk:=w.s.toks) λpl=>?_)) (ZAu B) (Zu rfl))
 refine Zwz (B.kin.keeps kh) B.bad.look (Jp rfl (spliced_cons (Xr B I.iv (e1▸rfl) (by rw[ks];rfl) s0 (spliced_cons (Xr B I.iv (e1▸rfl) (by rw[kr];rfl) s1 (spliced_nil (wpAny_call ?_)))))))
 refine Zxt rfl (kh _ _ hC0) he (Nat.le_of_ble_eq_true rfl) λh2 kp2 he2=>?_
 have I2:=I.next B.toBeg (Stp.upd I.iv (wr:=(·=e)) (h:=h2) (tk:=w.s.toks+1) (λb hb=>hb▸⟨_,hW,0,Nat.le_refl _,rfl⟩) (λb o hb=>kp2 b o hb) (λb hb=>hb▸⟨_,he2⟩) (λ_ _ h=>h) λ_ _ h=>.inl h)
 refine wpAny_execs_cons (Zft rfl (Zu rfl) (Yh rfl rfl) (Xr B I2.iv (e1▸rfl) (by rw[kr];rfl) s1 ?_))
 rw[PySem.assign_Attribute]
 refine wpAny_bind (wpAny_holding (Xr B I2.iv (e1▸rfl) (by rw[ks];rfl) s0 (wpAny_bind (wpAny_standAt (wpAny_bind (wpAny_holding ?_))))))
 exact ZFw (B.kin.keeps (I2.iv.hh B.toBeg)) hcl hmro hhd B.bad.sa B.bad.reason he2 λh3 tk3 dx kp3 he3=>wpAny_release (wpAny_execs_nil (H _ _ _ _ (λb o hb x=>kp3 b o hb (kp2 b o hb x)) he3))
theorem Zyv(B:Base c)(R:ZHd c (N+1))(BF:ZOr c i fn)(Pr:Pre c w)(he:w.s.heap.get? e=some (Zcz c.bad none t₀))(hW:w.W e=some (1,none))
  (H:∀s' od t₁,(∀b o,b≠e->w.s.heap.get? b=some o->s'.heap.get? b=some o)->s'.heap.get? e=some (Zcz c.bad od t₁)->s'.gens=w.s.gens->s'.os=w.s.os->K (.ok (.ret .none)) s'):
  codeAny c.M c.A (.call (.ref i) ⟨[.ref e,.str x t],[]⟩) K w.s:=by
 refine Jy (ls:=[]) (args:=[.f (.con (.ref e)),.f (.str x)]) B BF.ok R Pr (by rw[List.append_nil];exact BF.ok.nodup) rfl (λj o h=>?_) (by rw[BF.params];exact Nat.le_refl _) (by rw[BF.params];exact Nat.zero_le _) λfd s₁ us m cm Bk rm En I _ _ kp=>?_
 .match j,h with
  |0,h=>exact⟨_,rfl,Option.some.inj (Option.some.inj h)▸⟨rfl,rfl⟩⟩
  |1,h=>exact⟨_,rfl,Option.some.inj (Option.some.inj h)▸⟨t,rfl⟩⟩
 obtain⟨p1,p2,p3,p4,p5,p6,p7,p8,p9,p10,hbody,hline⟩:=BF.body
 rw[BF.params]at Bk I
 rw[hbody]
 exact Zyw (c:=c.called fd i ([("self":Str),("reason":Str)]++[]) w.s s₁ w us (Zw 0 fn.pols)) (w:=⟨s₁,w.Z,w.W,m,cm⟩) (Q:=λf s'=>K (.ok (.ret (match f with| .ret v=>v|_=>.none))) s') Bk I rfl rfl rfl BF.kself BF.kreason BF.kv (kp _ _ he) hW hline
  λh tk od t₁ k1 k2=>H ⟨h,s₁.gens,s₁.drawn,tk,s₁.os⟩ _ _ (λb o hb x=>k1 b o hb (kp b o x)) k2 (I.iv.gens.trans En.gens.symm) En.os
theorem Zyx(B:Blk c sc)(rm:RoomB c (N+1))(I:Inv c w σ Γ)
  (H:∀s' e od t₁,(∀b o,w.s.heap.get? b=some o->s'.heap.get? b=some o)->w.s.heap.get? e=none->s'.heap.get? e=some (Zcz c.bad od t₁)->s'.gens=w.s.gens->s'.os=w.s.os->K (.ok (.ret (.ref e))) s'):
  codeAny c.M c.A (.call (.ref c.bad) ⟨[.str x t],[]⟩) K w.s:=by
 obtain⟨nm,q,N,bs,G,sn,sub,ab,col,dd,k0,k1,k2,k3,k5,hC0,-⟩:=B.bad.obj
 obtain⟨i,fn,hi,hty,BF⟩:=(B.toBase.under (k:=.builtin "type.__call__" ⟨.ref c.bad::[.str x t],[]⟩)).bad.init
 have kh:=I.iv.hh B.toBeg
 refine Zxu (h:=w.s.heap) (g:=w.s.gens) (d:=w.s.drawn) (t:=w.s.toks) (os:=w.s.os) (B.kin.keeps kh) rfl rfl rfl (kh _ _ hC0) hi hty (by simp[sizeLine_eq]) ?_
 generalize ho:({cls:=.type "tuple",data:=.seq [Value.str x t].toArray}:Obj)=ot
 have j1:∀a o,w.s.heap.get? a=some o->(w.s.heap.push ot).get? a=some o:=λ_ _ e=>Heap.get?_push_of_some _ e
 have j2:∀a o,(w.s.heap.push ot).get? a=some o->((w.s.heap.push ot).push (Zcz c.bad none w.s.heap.objs.size)).get? a=some o:=λ_ _ e=>Heap.get?_push_of_some _ e
 have hx:=Heap.get?_push_size (w.s.heap.push ot) (o:=Zcz c.bad none w.s.heap.objs.size) rfl
 have hsz:(w.s.heap.push ot).objs.size=w.s.heap.objs.size+1:=Heap.size_push ..
 rw[<- hsz]
 have I1:=I.junk B.toBeg j1 w.s.toks
 have zn:=I1.iv.zn (Zl _)
 have I2:=I1.next B.toBeg (.alc I1.iv (tk:=w.s.toks) (W':=some (2*Γ.length+1,none)) j2 (Zl _) hx (λq e=>ns2 zn e) λ_=>zn)
 have P2:=Inv.pre (g:=λt=>if t=2*Γ.length+1 then some 1 else none) B I2
 refine Zyv (c:=c.under _) B.toBase.under rm.under BF ⟨P2.h0,P2.zok,P2.wz,P2.fl,P2.frs,P2.gens⟩ hx ?_ λs' od t₁ kp he hg ho=>⟨rfl,H s' _ od t₁ (λb o e=>kp b o (λq=>ns2 (Zl _) (q▸j1 b o e)) (j2 b o (j1 b o e))) ?_ he hg ho⟩
 .show((if _=_ then _ else _:Option Tg).bind _)=_
  rw[if_pos rfl]
  exact congrArg (Option.map (·,none)) (if_pos rfl)
 .exact Uy j1
theorem Zvu(B:Blk c sc)(rm:RoomB c (N+1)){bn:Str}{np cp pos:Pos}{e:Expr}{a:Nat}(hf:∀e,OkE c False (N+1) e (f e))(hs:Zd e=false)(hx:sc.lookup bn=some .globalImplicit)(hg:TT.glob bn=some (.con (.ref a)))(ha:TT.exc a=true)
  (q:(mg (N+1) (Xy (pth sc c.xs n) f [.frz] [e])).a False σ λvs _ _=>∃s,vs=[.f (.str s)])(I:Inv c w σ Γ){Qf:Flow->Shared->Prop}{Ev:Value->Shared->Prop}
  (R:∀e s' od t₁,(∀a o,c.s1.heap.get? a=some o->c.W1 a=none->a ∉ c.X->a≠e/\(s'.heap.get? a=some o\/(a∈c.FL/\∃sl,s'.heap.get? a=some {o with slots:=sl})))->s'.os=c.s1.os->s'.gens=#[]->Frs s'.heap c.l->s'.heap.get? e=some (Zcz c.bad od t₁)->Ev (.ref e) s'):
  wpAny c.M c.A (PySem.exec (.Raise (some (.Call (.Name bn np) [e] [] cp)) none pos) c.env) Qf Ev w.s:=by
 obtain rfl:=B.bad.exc a ha
 obtain⟨v,r,go⟩:=Zt (pos:=np) B I.iv hx hg
 obtain rfl:v=.ref c.bad:=r.1
 obtain⟨nm,q0,M0,bs,G,sn,sub,ab,col,dd,k0,k1,k2,k3,k5,hC0,-⟩:=B.bad.obj
 rw[arm_exec_Raise]
 refine wpAny_bind (wpAny_standAt (Ztc (C:=c.bad) (nm:=nm) (q:=q0) (N:=M0) (bs:=bs) (bm:=[.ref G,.type "ValueError",.type "Exception",.type "BaseException",.type "object"]) (hdct:=true) (sn:=sn) (sub:=sub) (ab:=ab) (col:=col) (dd:=dd) (k0:=k0) (k1:=k1) (k2:=k2) (k3:=k3) (k5:=k5) rfl rm.handled ?_))
 refine wpAny_bind (Call_Name rfl (go (tk:=w.s.toks) (Zic (first:=[]) (es:=[e]) B hf (show(Zd e||false)=false by rw[hs];rfl) B.bad.keep q I (λw vs os ls σ hl q I L=>?_) λh=>h.elim)))
 obtain⟨x,rfl⟩:=q
 obtain⟨u,rfl⟩:=List.length_eq_one_iff.mp hl
 obtain⟨t,rfl⟩:∃t,u=.str x t:=I.st.1
 exact wpAny_call (Zyx B rm I λs' e od t₁ kp hn he hg ho=>wpAny_bind (wpAny_standAt (wpAny_pure ⟨e,t₁,od,rfl,kp _ _ (I.iv.hh B.toBeg _ _ hC0),he,
  R e s' od t₁ (λa o h1 h2 h3=>have z:=I.iv.kept a o h1 h2 h3
   ⟨λq=>z.elim (λz=>ns2 hn (q▸z)) λz=>z.2.elim λ_ z=>ns2 hn (q▸z),z.imp (kp a _) λz=>⟨z.1,z.2.imp λ_=>kp a _⟩⟩) (ho.trans I.iv.os) (hg.trans I.iv.gens)
   (λen he=>⟨(I.iv.frs en he).1,(I.iv.frs en he).2.elim λL z=>z.elim λo z=>⟨L,o,z.1,kp L o z.2.1,z.2.2⟩⟩) he⟩)))
theorem Zhp{h B:Heap}{l:List Env}:Frs h l->(∀L∈l.filterMap (·.frame),B.get? L=none)->h.FunFrames B l:=by
 induction l with
 |nil=>exactλ_ _=>trivial
 |cons e r ih=>
  intro x hB
  obtain⟨h1,L,o,h2,h3,h4⟩:=x e List.mem_cons_self
  rw[List.filterMap_cons,h2]at hB
  exact⟨h1,⟨L,o,h2,hB L List.mem_cons_self,h3,h4⟩,ih (λe he=>x e (List.mem_cons_of_mem _ he)) λL hL=>hB L (List.mem_cons_of_mem _ hL)⟩
theorem Zxj{a b m:Nat}{args:List OV}{K:OV->List (Option OV)->Prop}{bn:Str}{np cp pos:Pos}{x:Expr}(hE:E)(hf:TT.fn a=some fn)(hbody:fn.body=[.Raise (some (.Call (.Name bn np) [x] [] cp)) none pos])(nd:(fn.params++[]).Nodup)(hl:args.length=fn.params.length)
  (hs:Zd x=false)(hx:fn.names.lookup bn=some .globalImplicit)(hg:TT.glob bn=some (.con (.ref b)))(ha:TT.exc b=true)
  (q:(mg (N+1) (Xy (pth fn.names (fn.params++[]) n) (eC m fn.names (fn.params++[])) [.frz] [x])).a False (Zah (args++(fn.dflts.drop (fn.dflts.length - (fn.params.length - args.length))).map .f) 0) λvs _ _=>∃s,vs=[.f (.str s)]):CallP (N+2) E a args K:=
 ⟨λc B R w vs Pr hv V Rr H1 H2=>Jy (ls:=[]) B (B.fns a fn hf) R Pr nd hv V (Nat.le_of_eq hl) (by rw[hl,Nat.sub_self];exact Nat.zero_le _) λfd s₁ us m' cm Bk rm En I hus hul kp=>by
  rw[hbody]
  refine wpAny_execs_cons (Zvu Bk rm (Zdk m Bk rm) hs hx hg ha q I λe s' od t₁ tk ho hg frs he=>?_)
  let hid:=(List.range w.s.heap.objs.size).filter (λb=>(w.W b).isSome)++c.FL
  have low:∀{b o},(hideAll w.s.heap hid).get? b=some o->w.s.heap.get? b=some o/\w.W b=none/\b ∉ c.FL:=λ{b o} h=>by
   have hb:=of_hideAll _ h
   have hn:b ∉ hid:=λq=>ns2 (hideAll_none _ q) h
   refine⟨hb,?_,λq=>hn (List.mem_append_right _ q)⟩
   cases z:w.W b with
   |none=>rfl
   |some _=>exact absurd (List.mem_append_left _ (List.mem_filter.mpr ⟨List.mem_range.mpr (Heap.lt_size hb),by rw[z];rfl⟩)) hn
  have nX:∀{b o},w.s.heap.get? b=some o->b ∉ (c.called fd a (fn.params++[]) w.s s₁ w us (Zw 0 fn.pols)).X:=λe q=>ns2 (En.x _ q) e
  have kp':∀{b o},(hideAll w.s.heap hid).get? b=some o->b≠e/\s'.heap.get? b=some o:=λ{b o} h=>by
   obtain⟨h1,h2,h3⟩:=low h
   obtain⟨h4,h5⟩:=tk b o (kp b o h1) h2 (nX h1)
   refine⟨h4,h5.resolve_right λz=>?_⟩
   exact(List.mem_cons.mp z.1).elim (λz=>ns2 (Zl _) (z▸h1)) h3
  refine wpAny_leaving_firstW (base:=hideAll w.s.heap hid) rm.frames (Zhp frs λL hL=>?_) rfl he (λb o h=>(kp' h).2) ?_ rfl rfl rfl λh' hL=>?_
  .cases q:(hideAll w.s.heap hid).get? L with
   |none=>rfl
   |some o=>exact(List.mem_cons.mp hL).elim (λz=>ns2 (Zl _) (z▸(low q).1)) λz=>absurd z (low q).2.2
  .cases q:(hideAll w.s.heap hid).get? e with
   |none=>rfl
   |some o=>exact absurd rfl (kp' q).1
  obtain⟨k1,⟨_,_,k2⟩,k3,k4⟩:=hL
  refine H2 hE e _ (Flown.up En Pr (λb o h1 h2 h3=>(tk b o h1 h2 h3).2) hg ho (B:=hideAll w.s.heap hid) (λb o h1 h2 h3=>hideAll_get _ h1 λq=>?_) ⟨k1,?_,k2,k3⟩ k4)
  .refine(List.mem_append.mp q).elim (λq=>?_) h3
   have q:=(List.mem_filter.mp q).2
   rw[h2]at q;cases q
  .cases q:(hideAll w.s.heap hid).get? e with
   |none=>rfl
   |some o=>exact absurd rfl (kp' q).1⟩
end
end
section
open PySem.Calls
section
variable{c c':Cx}{sc:Sc}{w:Wd}{E E':Prop}{N n i:Nat}{fn:Fn}{args:List OV}
theorem Thrown.landed{s':Shared}{e:Addr}(Pr:Pre c w)(T:Thrown c w s' e)(u:Nat):Stp c (λ_=>True) w ⟨{s' with toks:=u},w.Z,λ_=>none,w.m,w.cm⟩:=
 ⟨T.kept,λ_ _ e=>e,λa o z=>(T.kept a o (Pr.zok a o z) (by
  cases q:w.W a with
  |none=>rfl
  |some _=>exact ns2 (Pr.wz a (Ze q)).1 z)).resolve_right λq=>ns2 (Pr.fl a q.1).1 z,λ_ _ e=>.inl e,λ_ h=>absurd rfl h,λ_ h=>absurd rfl h,λ_ h=>absurd trivial h,rfl,rfl,T.os,T.gens⟩
theorem ZMi{a b k m:Nat}{outs:List (Option OV)}{K:OV->List (Option OV)->Prop}{bn s:Str}{xp kp rp rp2 hp pos:Pos}{x:Expr}(hf:TT.fn a=some fn)
  (hbody:fn.body=[.Try [.Return (some x) rp] [.ExceptHandler (some (.Name bn xp)) none [.Return (some (.Constant (.str s) k kp)) rp2] hp] [] [] pos])(nd:(fn.params++[]).Nodup)(hl:args.length=fn.params.length)(ho:∀j o,¬nth outs j=some (some o))
  (hx:fn.names.lookup bn=some .globalImplicit)(hg:TT.glob bn=some (.con (.ref b)))(ha:TT.exc b=true)
  (q:(mg N (eC m fn.names (fn.params++[]) x)).e E' (Zah (args++(fn.dflts.drop (fn.dflts.length - (fn.params.length - args.length))).map .f) 0) λv _=>K v outs)(q2:E'->K (.f (.str s)) outs):CallP (N+1) E a args K:=
 ⟨λc B R w vs Pr hv V Rr H1 H2=>Jy (ls:=[]) B (B.fns a fn hf) R Pr nd hv V (Nat.le_of_eq hl) (by rw[hl,Nat.sub_self];exact Nat.zero_le _) λfd s₁ us m' cm Bk rm En I hus hul kp=>by
  rw[hbody]
  refine wpAny_execs_cons (wpAny_Try_except (wpAny_execs_cons (wpAny_Return_some ((Zdk m Bk rm x).v q I (λw' v o σ q I=>H1 o outs v {w' with m:=w.m,cm:=w.cm} q (leave En I.iv) (RepO.nm (P:=c.P) I.st.1) λj o h=>absurd h (ho j o)) λhE ex s' T=>?_))))
  obtain⟨B0,a0,hB,air⟩:=T.fly
  refine Zmo (c:=c.called fd a (fn.params++[]) w.s s₁ w us (Zw 0 fn.pols)) rm.frames rfl rfl air λh₄ hh up₄=>?_
  refine wpAny_landsW hh λh₅ hfl₅ up₅=>?_
  have up:∀{h},Heap.FlyingW B0 (callEnvC fd w.s.heap.objs.size a::c.l) ex (.ref c.bad) a0 h->s'.heap.UpToSlots h->Thrown c w {s' with heap:=h} ex:=λfl up=>
   Flown.up En Pr T.kept T.gens T.os (En.low rfl (λL e=>by cases e;exact Zl _) hB) ⟨fl.1,fl.2.1,fl.2.2.1.2.2,fl.2.2.2⟩ up
  have T5:=up hfl₅ (up₄.trans up₅)
  have k5:∀a y,c.h₀.get? a=some y->h₅.get? a=some y:=λa y e=>(T5.landed Pr 0).zok a y (Pr.h0 a y e)
  obtain⟨oe,hoe,hcls⟩:=hfl₅.there
  obtain⟨v,r,go⟩:=Zhi (s:={s' with heap:=h₅}) (pos:=xp) Bk k5 hx hg
  obtain rfl:v=.ref b:=r.1
  obtain rfl:=B.bad.exc b ha
  obtain⟨nm,q0,M0,bs,G,sn,sub,ab,col,dd,k0,k1,k2,k3,k5',hC0,-⟩:=B.bad.obj
  refine wpAny_handleBy_cons (codeAny_handlers_test (go (tk:=s'.toks) (wpAny_excMatches_sub_self (k5 _ _ hC0) hoe hcls rfl (codeAny_handlers_suite (lands_againW hfl₅ λh₆ hfl₆ up₆=>?_))))) (by intro q;cases q)
  refine wpAny_execs_cons (wpAny_Return_some (wpAny_Constant_str ?_))
  exact H1 (.f (.str s)) outs (.str s s'.toks) ⟨_,w.Z,λ_=>none,w.m,w.cm⟩ (q2 hE) ((up hfl₆ ((up₄.trans up₅).trans up₆)).landed Pr _) ⟨_,rfl⟩ λj o h=>absurd h (ho j o)⟩
end
end
section
open PySem.Calls
structure Tree(a k:Nat)(pols:List Pol)(dfl:List MV)(b:CE):Prop where
 ex:∃(fn:Fn) (ls:List Str),TT.fn a=some fn/\ls.length=k/\fn.pols=pols/\fn.params.length=pols.length/\fn.dflts=dfl/\(fn.params++ls).Nodup/\bkC 40 fn.names (fn.params++ls) (Zw 0 pols) false 40 fn.body=b
theorem Zc{a:Nat}{pols:List Pol}{dfl:List MV}{b:CE}{st:Stmt}(ls:List Str)(h:(TT.fn a,decide (Zmm st++ls).Nodup,(Zmm st).length,bkC 40 (Jg st).names (Zmm st++ls) (Zw 0 pols) false 40 (Zju st))=(some (Zy st pols dfl),true,pols.length,b)):Tree a ls.length pols dfl b:=by
 obtain⟨h1,h⟩:=Prod.mk.inj h
 obtain⟨h2,h⟩:=Prod.mk.inj h
 obtain⟨h3,h4⟩:=Prod.mk.inj h
 exact⟨_,ls,h1,rfl,rfl,h3,rfl,of_decide_eq_true h2,h4⟩
theorem Tree.call{a k N:Nat}{pols:List Pol}{dfl:List MV}{b:CE}{E:Prop}{args:List OV}{K:OV->List (Option OV)->Prop}(T:Tree a k pols dfl b)(hl:args.length<=pols.length)(hd:pols.length - args.length<=dfl.length)
  (q:(mg N b).s E (Zah (args++(dfl.drop (dfl.length - (pols.length - args.length))).map .f) k) λt σ=>ZPv (λv=>K v (Zna pols σ)) t):CallP (N+1) E a args K:=by
 obtain⟨fn,ls,h1,rfl,rfl,h2,rfl,h3,rfl⟩:=T.ex
 rw[<- h2]at hl hd q
 exact ZSa h1 h3 h2.symm hl hd (λc' B rm tp e1 e2 e3=>by
  have:=(ZIy (m:=40) (E:=E) 40 B tp rm).2 fn.body
  rw[e1,e2,e3]at this
  exact this) q
end
section
set_option maxHeartbeats 0
noncomputable def ki(i:Int):CE:=.k (.int i)
noncomputable def ks(s:String):CE:=.k (.str (Str.ofString s))
noncomputable def v(i:Nat):CE:=.rd (.v i)
noncomputable def vf(i:Nat)(a:Str):CE:=.rd (.fd (.v i) a)
noncomputable def gl(i:Nat):CE:=.rd (.g i)
namespace TP2
noncomputable abbrev f:Pol:=.frz
noncomputable abbrev l:Pol:=.lend
noncomputable abbrev m:Pol:=.move
end TP2
noncomputable def b77:CE:=(cl [.asN 0 "op" 1,.asN 0 "a" 2,.asN 0 "b" 3,.asN 0 "c" 4,.asN 0 "line" 5])
open TP2 in
theorem t77:Tree 77 0 [l,f,f,f,f,f] [] b77:=Zc (st:=(mD 13 0)) [] (by refine Zs ?_;k_slotget)
noncomputable def b84:CE:=(cl [.ret (.cls 87 77 (cl [vf 0 "op",v 1,vf 0 "b",vf 0 "c",vf 0 "line"]))])
open TP2 in
theorem t84:Tree 84 0 [l,f] [] b84:=Zc (st:=(mD 13 1)) [] (by refine Zs ?_;k_slotget)
noncomputable def Yba:CE:=(cl [.asN 0 "sort" 1,.asN 0 "first" 2,.asN 0 "last" 3,.asN 0 "target" 4,.asN 0 "depth" 5])
open TP2 in
theorem ZXf:Tree 105 0 [l,f,f,f,f,f] [] Yba:=Zc (st:=(mD 14 0)) [] (by refine Zs ?_;k_slotget)
noncomputable def Yaz:CE:=(cl [.ret (.cmp (vf 0 "first") (.c2 .LtE (v 1) (.c1 .Lt (vf 0 "last"))))])
open TP2 in
theorem ZXe:Tree 112 0 [l,f] [] Yaz:=Zc (st:=(mD 14 1)) [] (by refine Zs ?_;k_slotget)
noncomputable def Yay:CE:=(cl [.asN 0 "kind" 1,.asN 0 "name" 2,.asN 0 "params" 3,.asN 0 "slots" 4,.asN 0 "rows" 5,.asN 0 "catches" 6,.asN 0 "children" 7,.asN 0 "starts" 8,.as (.tf 0 "number") (.k .none)])
open TP2 in
theorem ZXd:Tree 133 0 [l,f,f,f,f,m,f,f,f] [] Yay:=Zc (st:=(mD 15 0)) [] (by refine Zs ?_;k_slotget)
noncomputable def Yax:CE:=(cl [.ret (.cls 150 133 (.cons (vf 0 "kind") (.cons (vf 0 "name") (.cons (vf 0 "params") (.cons (vf 0 "slots") (.mv 1 (cl [v 2,v 4,v 3])))))))])
open TP2 in
theorem ZTo:Tree 147 0 [l,f,f,f,f] [] Yax:=Zc (st:=(mD 15 2)) [] (by refine Zs ?_;k_slotget)
noncomputable def Yaw:CE:=(cl [.as (.tn 1) (.sub (.g 12) (vf 0 "op")),.ret (.ife (.bi "isinstance" (cl [v 1,gl 82])) (v 1) (.fnv 1 (cl [v 0])))])
open TP2 in
theorem ZXc:Tree 303 1 [f] [] Yaw:=Zc (st:=(tD 29)) ["told"] (by refine Zs ?_;k_slotget)
noncomputable def Yav:CE:=(cl [.ret (.and (.bi "isinstance" (cl [v 0,gl 79])) (.not (.bi "isinstance" (cl [v 0,gl 81]))))])
open TP2 in
theorem ZXb:Tree 313 0 [f] [] Yav:=Zc (st:=(tD 31)) [] (by refine Zs ?_;k_slotget)
noncomputable def Yau:CE:=(cl [.ifs (.cmp (v 1) (.c1 .In (.tup (cl [(ks "n"),(ks "t")])))) (cl [.ret (.bi "isinstance" (cl [v 2,gl 80]))]) .nil,.ifs (.cmp (v 1) (.c1 .In (.tup (cl [(ks "c"),(ks "p")])))) (cl [.ret (.and (.fn 313 (cl [v 2])) (.cmp (v 2) (.c1 .GtE (ki 0))))]) .nil,.ifs (.cmp (v 1) (.c1 .Eq (ks "a"))) (cl [.ret (.and (.fn 313 (cl [v 2])) (.cmp (v 2) (.c1 .GtE (.neg (ki 1)))))]) .nil,.ifs (.cmp (v 1) (.c1 .Eq (ks "i"))) (cl [.ret (.fn 313 (cl [v 2]))]) .nil,.ifs (.cmp (v 1) (.c1 .Eq (ks "f"))) (cl [.ret (.bi "isinstance" (cl [v 2,gl 81]))]) .nil,.ifs (.cmp (v 1) (.c1 .Eq (ks "r"))) (cl [.ret (.or (.cmp (v 2) (.c1 .Is (.k .none))) (.cmp (v 2) (.c1 .Eq (ki 1))))]) .nil,.ifs (.cmp (v 1) (.c1 .Eq (ks "k"))) (cl [.ret (.bi "isinstance" (cl [v 2,.tup (cl [gl 83,gl 82])]))]) .nil,.ifs (.cmp (v 1) (.c1 .Eq (ks "b"))) (cl [.ret .bad]) .nil,.ret (.ife (.cmp (v 1) (.c1 .Eq (ks "s"))) .bad (.k (.bool true)))])
open TP2 in
theorem ZXa:Tree 334 0 [f,f,f] [] Yau:=Zc (st:=(tD 34)) [] (by refine Zs ?_;k_slotget)
noncomputable def Yat:CE:=(cl [.ifs (.cmp (vf 0 "op") (.c1 .Eq (ks "lambda"))) (cl [.ret (.tup (cl [vf 0 "a",(ks "block")]))]) .nil,.ifs (.cmp (vf 0 "op") (.c1 .In (.tup (cl [(ks "def"),(ks "sdef")])))) (cl [.ret (.tup (cl [vf 0 "b",(ks "method")]))]) .nil,.ifs (.cmp (vf 0 "op") (.c1 .In (.tup (cl [(ks "class"),(ks "module")])))) (cl [.ret (.tup (cl [vf 0 "b",(ks "class")]))]) .nil,.ifs (.cmp (vf 0 "op") (.c1 .Eq (ks "sclass"))) (cl [.ret (.tup (cl [vf 0 "a",(ks "class")]))]) .nil,.as (.tn 1) (.k .none),.ifs (.cmp (vf 0 "op") (.c1 .Eq (ks "send"))) (cl [.as (.tn 1) (.sub (.fd (.v 0) "c") (ki 1))]) (cl [.ifs (.cmp (vf 0 "op") (.c1 .Eq (ks "super"))) (cl [.as (.tn 1) (vf 0 "b")]) (cl [.ifs (.cmp (vf 0 "op") (.c1 .Eq (ks "zsuper"))) (cl [.as (.tn 1) (vf 0 "a")]) .nil])]),.ret (.ife (.bi "isinstance" (cl [v 1,gl 82])) (.tup (cl [.sub (.v 1) (ki 1),(ks "block")])) (.k .none))])
open TP2 in
theorem ZWz:Tree 341 1 [f] [] Yat:=Zc (st:=(tD 35)) ["block"] (by refine Zs ?_;k_slotget)
noncomputable def Yas:CE:=(cl [.asN 0 "code" 1,.as (.tf 0 "seen") (.ife (.cmp (vf 1 "kind") (.c1 .Eq (ks "block"))) .bad (.lst (cl [v 1]))),.as (.tf 0 "depths") (.bin .Mult (.lst (cl [.k .none])) (.lenP (.fd (.v 1) "rows"))),.as (.tf 0 "waiting") (.lst .nil)])
open TP2 in
theorem ZWy:Tree 355 0 [l,f,f] [] Yas:=Zc (st:=(mD 36 0)) [] (by refine Zs ?_;k_slotget)
noncomputable def Yar:CE:=(cl [.ifs (.or (.not (.fn 313 (cl [v 1]))) (.not (.cmp (ki 0) (.c2 .LtE (v 1) (.c1 .Lt (.lenP (.fd (.fd (.v 0) "code") "rows"))))))) (cl [.ex (.meth 0 "fail" 410 362 (cl [v 3,(ks "goes on beyond the rows")]))]) .nil,.as (.tn 4) (.sub (.fd (.v 0) "depths") (v 1)),.ifs (.cmp (v 4) (.c1 .Is (.k .none))) (cl [.as (.sub (.fd (.v 0) "depths") (v 1)) (v 2),.ex (.app (.fd (.v 0) "waiting") (v 1))]) (cl [.ifs (.cmp (v 4) (.c1 .NotEq (v 2))) (cl [.ex (.meth 0 "fail" 410 362 (cl [v 1,.bin .Add (.bin .Add (.bin .Add (ks "a stack of ") (.ty "str" (cl [v 4]))) (ks " and of ")) (.ty "str" (cl [v 2]))]))]) .nil])])
open TP2 in
theorem ZWx:Tree 369 1 [l,f,f,f] [] Yar:=Zc (st:=(mD 36 2)) ["known"] (by refine Zs ?_;k_slotget)
noncomputable def Yaq:CE:=(cl [.ifs (.or (.not (.bi "isinstance" (cl [v 2,gl 9]))) (.or (.not (.bi "isinstance" (cl [vf 2 "op",gl 80]))) (.cmp (vf 2 "op") (.cp .NotIn (.g 12))))) (cl [.ex (.meth 0 "fail" 410 362 (cl [v 1,(ks "no such op")]))]) .nil,.asX [4,3] (cl [.get (.g 14) (cl [vf 2 "op",(ks "")]),.tup (cl [vf 2 "a",vf 2 "b",vf 2 "c"])]),.each (.t [5,6]) (.itc "enumerate" (cl [v 3])) (cl [.ifs (.not (.fn 334 (cl [v 2,v 6,.sub (.v 4) (v 5)]))) (cl [.ex (.meth 0 "fail" 410 362 (cl [v 1,.bin .Add (.bin .Add (vf 2 "op") (ks ": operand ")) (.ty "str" (cl [v 5]))]))]) .nil]),.ifs (.cmp (.comp (v 1) (.n 1) (.ite (.sl (.v 4) (.so (.lenP (.v 3))) .nil)) (.so (.cmp (v 1) (.c1 .IsNot (.k .none)))) [] 2) (.c1 .NotEq (.lst .nil))) (cl [.ex (.meth 0 "fail" 410 362 (cl [v 1,.bin .Add (vf 2 "op") (ks ": too many operands")]))]) .nil,.ifs (.and (.cmp (vf 2 "op") (.cp .In (.g 5))) (.cmp (vf 2 "a") (.c1 .GtE (.lenP (.fd (.fd (.v 0) "code") "rows"))))) (cl [.ex (.meth 0 "fail" 410 362 (cl [v 1,(ks "jumps beyond the rows")]))]) .nil])
open TP2 in
theorem ZWw:Tree 374 4 [l,f,f] [] Yaq:=Zc (st:=(mD 36 3)) ["letters","told","at","letter"] (by refine Zs ?_;k_slotget)
noncomputable def Yap:CE:=(cl [.ifs (.or (.cmp (vf 2 "a") (.c1 .GtE (.lenP (.fd (.v 0) "seen")))) (.cmp (vf 2 "b") (.c1 .GtE (.lenE (.sat (.sub (.fd (.v 0) "seen") (vf 2 "a")) "slots"))))) (cl [.ex (.meth 0 "fail" 410 362 (cl [v 1,(ks "no such slot")]))]) .nil])
open TP2 in
theorem ZWv:Tree 381 0 [l,f,f] [] Yap:=Zc (st:=(mD 36 4)) [] (by refine Zs ?_;k_slotget)
noncomputable def Yao:CE:=(cl [.as (.tn 3) (.fn 341 (cl [v 2])),.ifs (.cmp (v 3) (.c1 .IsNot (.k .none))) (cl [.as (.tt [4,5]) (v 3),.ifs (.or (.not (.cmp (ki 0) (.c2 .LtE (v 4) (.c1 .Lt (.lenP (.fd (.fd (.v 0) "code") "children")))))) (.cmp (.sat (.sub (.fd (.fd (.v 0) "code") "children") (v 4)) "kind") (.c1 .NotEq (v 5)))) (cl [.ex (.meth 0 "fail" 410 362 (cl [v 1,(ks "no such child")]))]) .nil]) .nil])
open TP2 in
theorem ZWu:Tree 388 3 [l,f,f] [] Yao:=Zc (st:=(mD 36 5)) ["told","index","kind"] (by refine Zs ?_;k_slotget)
noncomputable def Yan:CE:=(cl [.asX [3,2] (cl [.sub (.fd (.fd (.v 0) "code") "rows") (v 1),.sub (.fd (.v 0) "depths") (v 1)]),.as (.tt [4,5]) (.fn 303 (cl [v 2])),.ifs (.cmp (v 3) (.c1 .Lt (v 4))) (cl [.ex (.meth 0 "fail" 410 362 (cl [v 1,(ks "the stack is too low")]))]) .nil,.ifs (.cmp (vf 2 "op") (.cp .In (.g 5))) (cl [.ex (.meth 0 "reach" 410 369 (cl [vf 2 "a",.bin .Add (.bin .Sub (v 3) (v 4)) (v 5),v 1]))]) .nil,.ifs (.cmp (vf 2 "op") (.cp .NotIn (.g 6))) (cl [.ex (.meth 0 "reach" 410 369 (cl [.bin .Add (v 1) (ki 1),.bin .Add (.bin .Sub (v 3) (v 4)) (v 5),v 1]))]) .nil,.each (.n 6) (.ite (.rd (.fd (.fd (.v 0) "code") "catches"))) (cl [.ifs (.meth 6 "covers" 115 112 (cl [v 1])) (cl [.ifs (.cmp (v 3) (.c1 .Lt (vf 6 "depth"))) (cl [.ex (.meth 0 "fail" 410 362 (cl [v 1,(ks "the stack is lower than that of a catch")]))]) .nil,.ex (.meth 0 "reach" 410 369 (cl [vf 6 "target",.bin .Add (vf 6 "depth") (ki 1),v 1]))]) .nil])])
open TP2 in
theorem ZWt:Tree 395 5 [l,f] [] Yan:=Zc (st:=(mD 36 6)) ["row","depth","taken","put","one"] (by refine Zs ?_;k_slotget)
noncomputable def Yam:CE:=(cl [.each (.n 1) (.ite (.rd (.fd (.fd (.v 0) "code") "catches"))) (cl [.as (.tn 2) (.lenP (.fd (.fd (.v 0) "code") "rows")),.as (.tn 3) (.ife (.bi "isinstance" (cl [v 1,gl 10])) (.lst (cl [vf 1 "first",vf 1 "last",vf 1 "target",vf 1 "depth"])) (.lst (cl [.k .none]))),.ifs (.or (.cmp (.k (.bool false)) (.c1 .In (.comp (.fn 313 (cl [v 1])) (.n 1) (.ite (v 3)) .nil [] 2))) (.or (.cmp (vf 1 "sort") (.cp .NotIn (.g 2))) (.not (.cmp (ki 0) (.c2 .LtE (.sub (.v 3) (ki 0)) (.c2 .Lt (.sub (.v 3) (ki 1)) (.c1 .LtE (v 2)))))))) (cl [.bad]) .nil,.ifs (.or (.not (.cmp (ki 0) (.c2 .LtE (vf 1 "target") (.c1 .Lt (v 2))))) (.cmp (vf 1 "depth") (.c1 .Lt (ki 0)))) (cl [.bad]) .nil])])
open TP2 in
theorem ZWs:Tree 400 3 [l] [] Yam:=Zc (st:=(mD 36 7)) ["one","many","at"] (by refine Zs ?_;k_slotget)
noncomputable def Yal:CE:=(cl [.ifs (.or (.cmp (.rd (.fd (.fd (.v 0) "code") "kind")) (.cp .NotIn (.g 1))) (.cmp (.lenP (.fd (.fd (.v 0) "code") "starts")) (.c1 .Eq (ki 0)))) (cl [.bad]) .nil,.each (.t [1,2]) (.itc "enumerate" (cl [.rd (.fd (.fd (.v 0) "code") "rows")])) (cl [.ex (.meth 0 "need_form" 410 374 (cl [v 1,v 2])),.ifs (.cmp (vf 2 "op") (.c1 .In (.tup (cl [(ks "getl"),(ks "setl")])))) (cl [.ex (.meth 0 "need_slots" 410 381 (cl [v 1,v 2]))]) .nil,.ex (.meth 0 "need_child" 410 388 (cl [v 1,v 2]))]),.ex (.meth 0 "need_catches" 410 400 .nil),.each (.n 3) (.ite (.rd (.fd (.fd (.v 0) "code") "starts"))) (cl [.ex (.meth 0 "reach" 410 369 (cl [v 3,(ki 0),v 3]))]),.whl (.cmp (.lenP (.fd (.v 0) "waiting")) (.c1 .Gt (ki 0))) (cl [.ex (.meth 0 "step" 410 395 (cl [.pop (.fd (.v 0) "waiting")]))])])
open TP2 in
theorem ZWr:Tree 407 3 [l] [] Yal:=Zc (st:=(mD 36 8)) ["place","row","start"] (by refine Zs ?_;k_slotget)
noncomputable def Yak:CE:=(cl [.as (.tn 2) (.cls 410 355 (cl [v 0,v 1])),.ifs (.cmp (.comp (v 1) (.n 1) (.ite (vf 0 "children")) (.so (.not (.bi "isinstance" (cl [v 1,gl 11])))) [] 2) (.c1 .NotEq (.lst .nil))) (cl [.bad]) .nil,.ex (.meth 2 "run" 410 407 .nil),.each (.n 3) (.ite (vf 0 "children")) (cl [.ex (.fn 421 (cl [v 3,.ife (.cmp (vf 3 "kind") (.c1 .Eq (ks "block"))) (vf 2 "seen") (.tup .nil)]))]),.ret (vf 2 "depths")])
open TP2 in
theorem ZWq:Tree 421 2 [f,f] [.tup []] Yak:=Zc (st:=(tD 37)) ["check","child"] (by refine Zs ?_;k_slotget)
noncomputable def Yaj:CE:=(cl [.ret (.and (.cmp (v 0) (.c1 .IsNot (.k .none))) (.cmp (vf 0 "op") (.cp .In (.v 1))))])
open TP2 in
theorem ZWp:Tree 431 0 [f,f] [] Yaj:=Zc (st:=(tD 43)) [] (by refine Zs ?_;k_slotget)
noncomputable def Yai:CE:=(cl [.ret (.and (.cmp (v 0) (.c1 .IsNot (.k .none))) (.not (.and (.bi "isinstance" (cl [v 0,gl 81])) (.not (v 0)))))])
open TP2 in
theorem ZWo:Tree 438 0 [f] [] Yai:=Zc (st:=(tD 44)) [] (by refine Zs ?_;k_slotget)
noncomputable def Yah:CE:=(cl [.as (.tn 1) (.bin .Mult (.lst (cl [.k (.bool false)])) (.bin .Add (.lenP (.fd (.v 0) "rows")) (ki 1))),.each (.n 2) (.ite (vf 0 "rows")) (cl [.ifs (.cmp (vf 2 "op") (.cp .In (.g 5))) (cl [.as (.sub (.v 1) (vf 2 "a")) (.k (.bool true))]) .nil]),.each (.n 3) (.ite (vf 0 "catches")) (cl [.as (.sub (.v 1) (vf 3 "target")) (.k (.bool true))]),.each (.n 4) (.ite (vf 0 "starts")) (cl [.as (.sub (.v 1) (v 4)) (.k (.bool true))]),.ret (v 1)])
open TP2 in
theorem ZWn:Tree 445 4 [f] [] Yah:=Zc (st:=(tD 45)) ["found","row","one","start"] (by refine Zs ?_;k_slotget)
noncomputable def Yag:CE:=(cl [.asT (cl [.tn 2,.tn 3]) (cl [.lst .nil,.lst .nil]),.each (.n 4) (.ite (v 1)) (cl [.ex (.app (.v 2) (.lenP (.v 3))),.ifs (.cmp (v 4) (.c1 .IsNot (.k .none))) (cl [.ex (.app (.v 3) (v 4))]) .nil]),.ex (.app (.v 2) (.lenP (.v 3))),.as (.tn 3) (.comp (.ife (.cmp (vf 2 "op") (.cp .In (.g 5))) (.meth 2 "with_target" 87 84 (cl [.sub (.v 0) (vf 2 "a")])) (v 2)) (.n 2) (.ite (v 3)) .nil [2] 2),.as (.tn 5) (.lst .nil),.each (.n 6) (.ite (vf 0 "catches")) (cl [.asX [8,7] (cl [.sub (.v 2) (vf 6 "first"),.sub (.v 2) (vf 6 "last")]),.ifs (.cmp (v 7) (.c1 .Lt (v 8))) (cl [.ex (.app (.v 5) (.cls 115 105 (cl [vf 6 "sort",v 7,v 8,.sub (.v 2) (vf 6 "target"),vf 6 "depth"])))]) .nil]),.ret (.meth 0 "with_rows" 150 147 (cl [v 3,v 5,.comp (.sub (.v 0) (v 2)) (.n 2) (.ite (vf 0 "starts")) .nil [2] 2,vf 0 "children"]))])
open TP2 in
theorem ZWm:Tree 450 7 [f,f] [] Yag:=Zc (st:=(tD 46)) ["places","kept","row","catches","one","first","last"] (by refine Zs ?_;k_slotget)
noncomputable def Yaf:CE:=(cl [.as (.tn 2) (v 1),.each (.n 3) (.itc "range" (cl [.lenP (.fd (.v 0) "rows")])) (cl [.ifs (.cmp (.sat (.sub (.fd (.v 0) "rows") (v 2)) "op") (.c1 .NotEq (ks "jump"))) (cl [.ret (v 2)]) .nil,.as (.tn 2) (.sat (.sub (.fd (.v 0) "rows") (v 2)) "a")]),.ret (v 1)])
open TP2 in
theorem ZWl:Tree 457 2 [f,f] [] Yaf:=Zc (st:=(tD 47)) ["found","turn"] (by refine Zs ?_;k_slotget)
noncomputable def Yae:CE:=(cl [.as (.tn 1) (.lst .nil),.each (.n 2) (.ite (vf 0 "rows")) (cl [.ifs (.cmp (vf 2 "op") (.cp .NotIn (.g 5))) (cl [.ex (.app (.v 1) (v 2)),.cont]) .nil,.as (.tn 3) (.fn 457 (cl [v 0,vf 2 "a"])),.ifs (.and (.cmp (vf 2 "op") (.c1 .Eq (ks "jump"))) (.cmp (.sat (.sub (.fd (.v 0) "rows") (v 3)) "op") (.c1 .Eq (ks "leave")))) (cl [.ex (.app (.v 1) (.cls 87 77 (cl [(ks "leave"),.k .none,.k .none,.k .none,vf 2 "line"])))]) (cl [.ex (.app (.v 1) (.meth 2 "with_target" 87 84 (cl [v 3])))])]),.ret (.fn 450 (cl [v 0,v 1]))])
open TP2 in
theorem ZTn:Tree 464 3 [f] [] Yae:=Zc (st:=(tD 48)) ["rows","row","target"] (by refine Zs ?_;k_slotget)
noncomputable def Yad:CE:=(cl [.as (.tn 1) (.bin .Mult (.lst (cl [.k (.bool false)])) (.lenP (.fd (.v 0) "rows"))),.as (.tn 2) (.ty "list" (cl [vf 0 "starts"])),.whl (.cmp (.lenP (.v 2)) (.c1 .Gt (ki 0))) (cl [.as (.tn 3) (.pop (.v 2)),.ifs (.sub (.v 1) (v 3)) (cl [.cont]) .nil,.as (.sub (.v 1) (v 3)) (.k (.bool true)),.as (.tn 4) (.sub (.fd (.v 0) "rows") (v 3)),.ifs (.cmp (vf 4 "op") (.cp .In (.g 5))) (cl [.ex (.app (.v 2) (vf 4 "a"))]) .nil,.ifs (.cmp (vf 4 "op") (.cp .NotIn (.g 6))) (cl [.ex (.app (.v 2) (.bin .Add (v 3) (ki 1)))]) .nil,.each (.n 5) (.ite (vf 0 "catches")) (cl [.ifs (.meth 5 "covers" 115 112 (cl [v 3])) (cl [.ex (.app (.v 2) (vf 5 "target"))]) .nil])]),.ret (v 1)])
open TP2 in
theorem ZWk:Tree 471 5 [f] [] Yad:=Zc (st:=(tD 49)) ["found","waiting","place","row","one"] (by refine Zs ?_;k_slotget)
noncomputable def Yac:CE:=(cl [.ret (.fn 450 (cl [v 0,.comp (.ife (v 2) (v 1) (.k .none)) (.t [1,2]) (.itc "zip" (cl [vf 0 "rows",.fn 471 (cl [v 0])])) .nil [] 3]))])
open TP2 in
theorem ZTm:Tree 476 0 [f] [] Yac:=Zc (st:=(tD 50)) [] (by refine Zs ?_;k_slotget)
noncomputable def Yab:CE:=(cl [.asX [2,1] (cl [.ty "list" (cl [vf 0 "rows"]),.fn 445 (cl [v 0])]),.each (.n 3) (.itc "range" (cl [.bin .Sub (.lenP (.v 1)) (ki 1)])) (cl [.ifs (.and (.fn 431 (cl [.sub (.v 1) (v 3),gl 21])) (.and (.fn 431 (cl [.sub (.v 1) (.bin .Add (v 3) (ki 1)),.tup (cl [(ks "pop")])])) (.not (.sub (.v 2) (.bin .Add (v 3) (ki 1)))))) (cl [.asT (cl [.sub (.v 1) (v 3),.sub (.v 1) (.bin .Add (v 3) (ki 1))]) (cl [.k .none,.k .none])]) .nil]),.ret (.fn 450 (cl [v 0,v 1]))])
open TP2 in
theorem ZTl:Tree 483 3 [f] [] Yab:=Zc (st:=(tD 51)) ["rows","marks","place"] (by refine Zs ?_;k_slotget)
noncomputable def Yaa:CE:=(cl [.asX [2,1] (cl [.ty "list" (cl [vf 0 "rows"]),.fn 445 (cl [v 0])]),.each (.n 3) (.itc "range" (cl [.bin .Sub (.lenP (.v 1)) (ki 2)])) (cl [.ifs (.and (.fn 431 (cl [.sub (.v 1) (v 3),.tup (cl [(ks "dup")])])) (.and (.fn 431 (cl [.sub (.v 1) (.bin .Add (v 3) (ki 1)),gl 22])) (.fn 431 (cl [.sub (.v 1) (.bin .Add (v 3) (ki 2)),.tup (cl [(ks "pop")])])))) (cl [.ifs (.and (.not (.sub (.v 2) (.bin .Add (v 3) (ki 1)))) (.not (.sub (.v 2) (.bin .Add (v 3) (ki 2))))) (cl [.asT (cl [.sub (.v 1) (v 3),.sub (.v 1) (.bin .Add (v 3) (ki 2))]) (cl [.k .none,.k .none])]) .nil]) .nil]),.ret (.fn 450 (cl [v 0,v 1]))])
open TP2 in
theorem ZTk:Tree 490 3 [f] [] Yaa:=Zc (st:=(tD 52)) ["rows","marks","place"] (by refine Zs ?_;k_slotget)
noncomputable def ZZz:CE:=(cl [.ret (.cmp (.fn 438 (cl [v 1])) (.c1 .Eq (.cmp (vf 0 "op") (.c1 .Eq (ks "jumpif")))))])
open TP2 in
theorem ZWj:Tree 497 0 [f,f] [] ZZz:=Zc (st:=(tD 53)) [] (by refine Zs ?_;k_slotget)
noncomputable def ZZy:CE:=(cl [.asX [2,1] (cl [.ty "list" (cl [vf 0 "rows"]),.fn 445 (cl [v 0])]),.each (.n 3) (.itc "range" (cl [.bin .Sub (.lenP (.v 1)) (ki 1)])) (cl [.asX [5,4] (cl [.sub (.v 1) (v 3),.sub (.v 1) (.bin .Add (v 3) (ki 1))]),.ifs (.or (.not (.fn 431 (cl [v 4,.tup (cl [(ks "push")])]))) (.or (.cmp (v 5) (.c1 .Is (.k .none))) (.sub (.v 2) (.bin .Add (v 3) (ki 1))))) (cl [.cont]) .nil,.ifs (.cmp (vf 5 "op") (.cp .In (.g 23))) (cl [.as (.tn 6) (.fn 497 (cl [v 5,vf 4 "a"])),.as (.sub (.v 1) (v 3)) (.k .none),.as (.sub (.v 1) (.bin .Add (v 3) (ki 1))) (.ife (v 6) (.cls 87 77 (cl [(ks "jump"),vf 5 "a",.k .none,.k .none,vf 5 "line"])) (.k .none))]) (cl [.ifs (.and (.cmp (vf 5 "op") (.c1 .Eq (ks "jump"))) (.cmp (.sat (.sub (.fd (.v 0) "rows") (vf 5 "a")) "op") (.cp .In (.g 23)))) (cl [.as (.tn 7) (.sub (.fd (.v 0) "rows") (vf 5 "a")),.as (.tn 8) (.ife (.fn 497 (cl [v 7,vf 4 "a"])) (vf 7 "a") (.bin .Add (vf 5 "a") (ki 1))),.as (.sub (.v 1) (v 3)) (.k .none),.as (.sub (.v 1) (.bin .Add (v 3) (ki 1))) (.meth 5 "with_target" 87 84 (cl [v 8]))]) .nil])]),.ret (.fn 450 (cl [v 0,v 1]))])
open TP2 in
theorem ZTj:Tree 504 8 [f] [] ZZy:=Zc (st:=(tD 54)) ["rows","marks","place","row","behind","taken","branch","target"] (by refine Zs ?_;k_slotget)
noncomputable def ZZx:CE:=(cl [.asX [2,1] (cl [.ty "list" (cl [vf 0 "rows"]),.fn 445 (cl [v 0])]),.each (.n 3) (.itc "range" (cl [.bin .Sub (.lenP (.v 1)) (ki 1)])) (cl [.asX [5,4] (cl [.sub (.v 1) (v 3),.sub (.v 1) (.bin .Add (v 3) (ki 1))]),.ifs (.and (.fn 431 (cl [v 4,gl 23])) (.and (.fn 431 (cl [v 5,.tup (cl [(ks "jump")])])) (.and (.cmp (vf 4 "a") (.c1 .Eq (.bin .Add (v 3) (ki 2)))) (.not (.sub (.v 2) (.bin .Add (v 3) (ki 1))))))) (cl [.as (.tn 6) (.ife (.cmp (vf 4 "op") (.c1 .Eq (ks "jumpif"))) (ks "jumpunless") (ks "jumpif")),.asT (cl [.sub (.v 1) (v 3),.sub (.v 1) (.bin .Add (v 3) (ki 1))]) (cl [.cls 87 77 (cl [v 6,vf 5 "a",.k .none,.k .none,vf 4 "line"]),.k .none])]) .nil]),.ret (.fn 450 (cl [v 0,v 1]))])
open TP2 in
theorem ZTi:Tree 511 6 [f] [] ZZx:=Zc (st:=(tD 55)) ["rows","marks","place","row","behind","op"] (by refine Zs ?_;k_slotget)
noncomputable def ZZw:CE:=(cl [.as (.tn 1) (.lst .nil),.each (.t [2,3]) (.itc "enumerate" (cl [vf 0 "rows"])) (cl [.ifs (.and (.cmp (vf 3 "op") (.cp .In (.g 5))) (.cmp (vf 3 "a") (.c1 .Eq (.bin .Add (v 2) (ki 1))))) (cl [.ex (.app (.v 1) (.ife (.cmp (vf 3 "op") (.cp .In (.g 23))) (.cls 87 77 (cl [(ks "pop"),.k .none,.k .none,.k .none,vf 3 "line"])) (.k .none)))]) (cl [.ex (.app (.v 1) (v 3))])]),.ret (.fn 450 (cl [v 0,v 1]))])
open TP2 in
theorem ZTh:Tree 518 3 [f] [] ZZw:=Zc (st:=(tD 56)) ["rows","place","row"] (by refine Zs ?_;k_slotget)
noncomputable def ZZv:CE:=(cl [.asX [2,1] (cl [.ty "list" (cl [vf 0 "rows"]),.fn 445 (cl [v 0])]),.each (.n 3) (.itc "range" (cl [.bin .Sub (.lenP (.v 1)) (ki 1)])) (cl [.ifs (.or (.not (.fn 431 (cl [.sub (.v 1) (.bin .Add (v 3) (ki 1)),.tup (cl [(ks "swap")])]))) (.sub (.v 2) (.bin .Add (v 3) (ki 1)))) (cl [.cont]) .nil,.ifs (.fn 431 (cl [.sub (.v 1) (v 3),.tup (cl [(ks "swap")])])) (cl [.asT (cl [.sub (.v 1) (v 3),.sub (.v 1) (.bin .Add (v 3) (ki 1))]) (cl [.k .none,.k .none])]) (cl [.ifs (.fn 431 (cl [.sub (.v 1) (v 3),.tup (cl [(ks "dup")])])) (cl [.as (.sub (.v 1) (.bin .Add (v 3) (ki 1))) (.k .none)]) .nil])]),.ret (.fn 450 (cl [v 0,v 1]))])
open TP2 in
theorem ZTg:Tree 525 3 [f] [] ZZv:=Zc (st:=(tD 57)) ["rows","marks","place"] (by refine Zs ?_;k_slotget)
noncomputable def ZZu:CE:=(cl [.ret (.comp (.tup (cl [vf 1 "op",vf 1 "a",vf 1 "b",vf 1 "c"])) (.n 1) (.ite (vf 0 "rows")) .nil [] 2)])
open TP2 in
theorem ZWi:Tree 539 0 [f] [] ZZu:=Zc (st:=(tD 59)) [] (by refine Zs ?_;k_slotget)
noncomputable def ZZt:CE:=(cl [.each (.n 1) (.itc "range" (cl [gl 20])) (cl [.as (.tn 2) (.fn 539 (cl [v 0])),.each (.t [3,4]) (.ite (gl 39)) (cl [.as (.tn 0) (.fnv 4 (cl [v 0]))]),.ifs (.cmp (.fn 539 (cl [v 0])) (.c1 .Eq (v 2))) (cl [.ret (v 0)]) .nil]),.ret (v 0)])
open TP2 in
theorem ZWh:Tree 546 4 [f] [] ZZt:=Zc (st:=(tD 60)) ["turn","before","name","step"] (by refine Zs ?_;k_slotget)
noncomputable def ZZs:CE:=(cl [.as (.tn 1) (.fn 546 (cl [v 0])),.ret (.meth 1 "with_rows" 150 147 (cl [vf 1 "rows",vf 1 "catches",vf 1 "starts",.comp (.fn 551 (cl [v 1])) (.n 1) (.ite (vf 1 "children")) .nil [] 2]))])
open TP2 in
theorem ZWg:Tree 551 1 [f] [] ZZs:=Zc (st:=(tD 61)) ["found"] (by refine Zs ?_;k_slotget)
noncomputable def ZZr:CE:=(cl [.each (.t [1,2]) (.ite (gl 39)) (cl [.ifs (.cmp (v 1) (.c1 .Eq (v 0))) (cl [.ret (v 2)]) .nil]),.ret (.k .none)])
open TP2 in
theorem ZWf:Tree 558 2 [f] [] ZZr:=Zc (st:=(tD 62)) ["told","step"] (by refine Zs ?_;k_slotget)
noncomputable def ZZq:CE:=(cl [.each (.n 2) (.ite (v 1)) (cl [.as (.tn 3) (.fn 558 (cl [v 2])),.ifs (.cmp (v 3) (.c1 .IsNot (.k .none))) (cl [.as (.tn 0) (.fnv 3 (cl [v 0]))]) .nil]),.ret (.meth 0 "with_rows" 150 147 (cl [vf 0 "rows",vf 0 "catches",vf 0 "starts",.comp (.fn 563 (cl [v 2,v 0])) (.n 2) (.ite (vf 0 "children")) .nil [1] 2]))])
open TP2 in
theorem ZWe:Tree 563 2 [f,f] [] ZZq:=Zc (st:=(tD 63)) ["name","step"] (by refine Zs ?_;k_slotget)
noncomputable def ZZp:CE:=(cl [.asT (cl [.tn 1,.tn 2]) (cl [(ki 0),(ki 33023)]),.each (.n 3) (.ite (.sl (.v 0) .nil (.so (ki 24)))) (cl [.ifs (.and (.cmp (v 1) (.c1 .Eq (ki 0))) (.cmp (v 3) (.c1 .GtE (.bin .Pow (ki 10) (ki 18))))) (cl [.as (.tn 1) (.bin .Mod (.bin .Sub (v 3) (.bin .Pow (ki 10) (ki 18))) (.bin .Pow (ki 10) (ki 90)))]) .nil,.as (.tn 2) (.bin .Mod (.bin .Add (.bin .Mult (v 2) (ki 48271)) (v 3)) (ki 2147483629))]),.ret (.lst (cl [v 1,v 2,(ki 0),.or (.cmp (v 0) (.c1 .Eq (.lst .nil))) (.and (.cmp (.lenP (.v 0)) (.c1 .Eq (ki 1))) (.cmp (.bi "abs" (cl [.sub (.v 0) (ki 0)])) (.c1 .Lt (ki 10))))]))])
open TP2 in
theorem ZWd:Tree 570 3 [f] [] ZZp:=Zc (st:=(tD 65)) ["great","seed","cell"] (by refine Zs ?_;k_slotget)
noncomputable def ZZo:CE:=(cl [.ifs (.cmp (.sub (.v 0) (ki 0)) (.c1 .Gt (ki 0))) (cl [.as (.tn 2) (.bin .Mod (.sub (.v 0) (ki 0)) (v 1)),.as (.sub (.v 0) (ki 0)) (.bin .FloorDiv (.sub (.v 0) (ki 0)) (v 1)),.ret (v 2)]) .nil,.as (.sub (.v 0) (ki 2)) (.bin .Add (.sub (.v 0) (ki 2)) (ki 1)),.as (.tn 3) (.bin .Mod (.bin .Pow (.bin .Add (.bin .Add (.sub (.v 0) (ki 1)) (.bin .Mult (ki 40169) (.sub (.v 0) (ki 2)))) (ki 7)) (ki 5)) (ki 2147483647)),.as (.tn 3) (.bin .Mod (.bin .Pow (.bin .Add (v 3) (.bin .Mult (ki 93001) (.sub (.v 0) (ki 2)))) (ki 3)) (ki 2147483587)),.ret (.bin .Mod (.bin .FloorDiv (v 3) (ki 16)) (v 1))])
open TP2 in
theorem ZWc:Tree 577 2 [l,f] [] ZZo:=Zc (st:=(tD 66)) ["digit","blend"] (by refine Zs ?_;k_slotget)
noncomputable def ZZn:CE:=(cl [.ret (.sub (.v 1) (.fn 577 (.lend 0 (cl [.lenP (.v 1)]))))])
open TP2 in
theorem ZWb:Tree 584 0 [l,f] [] ZZn:=Zc (st:=(tD 67)) [] (by refine Zs ?_;k_slotget)
noncomputable def ZZm:CE:=(cl [.ret (.tup (cl [(ks "push"),.fn 584 (.lend 0 (cl [.lst (cl [.k (.bool true),.k .none,.k (.bool false),(ki 0),(ks "s")])])),.k .none]))])
open TP2 in
theorem ZWa:Tree 591 0 [l] [] ZZm:=Zc (st:=(tD 68)) [] (by refine Zs ?_;k_slotget)
noncomputable def ZZl:CE:=(cl [.as (.tn 2) (.fn 584 (.lend 0 (cl [.bin .Add (.lst (cl [(ks "push"),(ks "self"),(ks "getl"),(ks "geti"),(ks "getg"),(ks "blockgiven")])) (.bin .Mult (.lst (cl [(ks "dup")])) (.ty "int" (cl [.cmp (v 1) (.c1 .Gt (ki 0))])))]))),.ifs (.cmp (v 2) (.c1 .Eq (ks "push"))) (cl [.ret (.fn 591 (.lend 0 .nil))]) .nil,.ret (.tup (cl [v 2,.lit [((.str "getl"),(.int 0)),((.str "geti"),(.str "@x")),((.str "getg"),(.str "$x"))] (cl [v 2]),.ife (.cmp (v 2) (.c1 .Eq (ks "getl"))) (ki 1) (.k .none)]))])
open TP2 in
theorem ZVz:Tree 598 1 [l,f] [] ZZl:=Zc (st:=(tD 69)) ["op"] (by refine Zs ?_;k_slotget)
noncomputable def ZZk:CE:=(cl [.as (.tn 1) (.lst (cl [.tup (cl [(ks "pop"),.k .none,.k .none]),.tup (cl [(ks "setl"),(ki 0),(ki 1)]),.tup (cl [(ks "seti"),(ks "@x"),.k .none]),.tup (cl [(ks "setg"),(ks "$x"),.k .none]),.tup (cl [(ks "setc"),(ks "C"),.k .none])])),.ret (.fn 584 (.lend 0 (cl [v 1])))])
open TP2 in
theorem ZVy:Tree 605 1 [l] [] ZZk:=Zc (st:=(tD 70)) ["some"] (by refine Zs ?_;k_slotget)
noncomputable def ZZj:CE:=(cl [.ret (.tup (cl [.fn 584 (.lend 0 (cl [.lst (cl [(ks "jumpif"),(ks "jumpunless")])])),v 1,.k .none]))])
open TP2 in
theorem ZVx:Tree 612 0 [l,f] [] ZZj:=Zc (st:=(tD 71)) [] (by refine Zs ?_;k_slotget)
noncomputable def ZZi:CE:=(cl [.as (.tn 2) (.lst (cl [.tup (cl [(ks "jump"),.k .none,.k .none]),.tup (cl [(ks "text"),(ks "t"),.k .none]),.tup (cl [(ks "undef"),(ks "u"),.k .none]),.tup (cl [(ks "fail"),(ks "E"),(ks "t")]),.fn 598 (.lend 0 (cl [v 1]))])),.ifs (.cmp (v 1) (.c1 .Gt (ki 0))) (cl [.as (.tn 2) (.bin .Add (v 2) (.lst (cl [.fn 612 (.lend 0 (cl [.k .none])),.tup (cl [(ks "jumpnil"),.k .none,.k .none]),.fn 605 (.lend 0 .nil),.tup (cl [(ks "leave"),.k .none,.k .none])])))]) .nil,.ifs (.cmp (v 1) (.c1 .Gt (ki 1))) (cl [.ex (.app (.v 2) (.tup (cl [(ks "swap"),.k .none,.k .none])))]) .nil,.ret (.fn 584 (.lend 0 (cl [v 2])))])
open TP2 in
theorem ZVw:Tree 619 1 [l,f] [] ZZi:=Zc (st:=(tD 72)) ["some"] (by refine Zs ?_;k_slotget)
noncomputable def ZZh:CE:=(cl [.asT (cl [.tn 3,.tn 4,.tn 5,.tn 6]) (cl [.tup (cl [(ks "pop"),.k .none,.k .none]),.tup (cl [(ks "dup"),.k .none,.k .none]),.tup (cl [(ks "swap"),.k .none,.k .none]),.tup (cl [(ks "jump"),.k .none,.k .none])]),.ifs (.cmp (v 2) (.c1 .Eq (ki 0))) (cl [.ret (.lst (cl [.fn 598 (.lend 0 (cl [v 1])),v 3]))]) .nil,.ifs (.cmp (v 2) (.c1 .Eq (ki 1))) (cl [.ret (.lst (cl [.fn 598 (.lend 0 (cl [v 1])),v 4,.fn 605 (.lend 0 .nil),v 3]))]) .nil,.ifs (.cmp (v 2) (.c1 .Eq (ki 2))) (cl [.ret (.lst (cl [.fn 591 (.lend 0 .nil),.fn 612 (.lend 0 (cl [.k .none]))]))]) .nil,.ifs (.cmp (v 2) (.c1 .Eq (ki 3))) (cl [.ret (.lst (cl [.fn 598 (.lend 0 (cl [v 1])),.fn 612 (.lend 0 (cl [(ki 2)])),v 6]))]) .nil,.ifs (.cmp (v 2) (.c1 .Eq (ki 4))) (cl [.ret (.lst (cl [.tup (cl [(ks "jump"),(ki 1),.k .none])]))]) .nil,.ifs (.cmp (v 2) (.c1 .Eq (ki 5))) (cl [.ret (.lst (cl [.fn 598 (.lend 0 (cl [v 1])),.fn 612 (.lend 0 (cl [(ki 1)]))]))]) .nil,.ifs (.cmp (v 2) (.c1 .Eq (ki 6))) (cl [.ret (.lst (cl [.tup (cl [(ks "jump"),(ki 3),.k .none]),.fn 598 (.lend 0 (cl [v 1])),v 3]))]) .nil,.ifs (.cmp (v 2) (.c1 .Eq (ki 7))) (cl [.ret (.lst (cl [.fn 598 (.lend 0 (cl [v 1])),.fn 598 (.lend 0 (cl [v 1])),v 5,v 5]))]) .nil,.ifs (.cmp (v 2) (.c1 .Eq (ki 8))) (cl [.ret (.lst (cl [.fn 598 (.lend 0 (cl [v 1])),v 4,v 5]))]) .nil,.ifs (.cmp (v 2) (.c1 .Eq (ki 9))) (cl [.ret (.lst (cl [.fn 591 (.lend 0 .nil),.tup (cl [(ks "jump"),(ki 1),.k .none]),.fn 612 (.lend 0 (cl [.k .none]))]))]) .nil,.ret (.lst (cl [.fn 619 (.lend 0 (cl [v 1]))]))])
open TP2 in
theorem ZVv:Tree 626 4 [l,f,f] [] ZZh:=Zc (st:=(tD 73)) ["pop","dup","swap","jump"] (by refine Zs ?_;k_slotget)
noncomputable def ZZg:CE:=(cl [.ifs (.cmp (v 0) (.c1 .In (.lst (cl [(ks "pop"),(ks "leave"),(ks "setl"),(ks "seti"),(ks "setg"),(ks "setc"),(ks "jumpif"),(ks "jumpunless")])))) (cl [.ret (.neg (ki 1))]) .nil,.ret (.ife (.cmp (v 0) (.c1 .In (.lst (cl [(ks "swap"),(ks "jump"),(ks "jumpnil"),(ks "fail")])))) (ki 0) (ki 1))])
open TP2 in
theorem ZVu:Tree 633 0 [f] [] ZZg:=Zc (st:=(tD 74)) [] (by refine Zs ?_;k_slotget)
noncomputable def ZZf:CE:=(cl [.each (.n 4) (.ite (v 2)) (cl [.ex (.app (.v 0) (v 4)),.ex (.app (.v 1) (v 3)),.as (.tn 3) (.bin .Add (v 3) (.fn 633 (cl [.sub (.v 4) (ki 0)])))]),.ret (v 3)])
open TP2 in
theorem ZVt:Tree 640 1 [l,l,f,f] [] ZZf:=Zc (st:=(tD 75)) ["row"] (by refine Zs ?_;k_slotget)
noncomputable def ZZe:CE:=(cl [.asX [3,2,1] (cl [.lst .nil,.lst .nil,(ki 0)]),.each (.n 4) (.itc "range" (cl [.ife (.sub (.v 0) (ki 3)) (ki 1) (ki 3)])) (cl [.as (.tn 5) (.fn 626 (.lend 0 (cl [v 3,.ife (.sub (.v 0) (ki 3)) (ki 0) (.fn 577 (.lend 0 (cl [(ki 12)])))]))),.as (.tn 6) (.bin .Add (v 3) (.bi "sum" (cl [.comp (.fn 633 (cl [.sub (.v 1) (ki 0)])) (.n 1) (.ite (v 5)) .nil [] 2]))),.ifs (.cmp (.bin .Add (.bin .Add (.lenP (.v 1)) (.lenP (.v 5))) (v 6)) (.c1 .LtE (ki 6))) (cl [.as (.tn 3) (.fn 640 (.lend 1 (.lend 2 (cl [v 5,v 3]))))]) .nil]),.whl (.cmp (v 3) (.c1 .Gt (ki 0))) (cl [.as (.tn 3) (.fn 640 (.lend 1 (.lend 2 (cl [.lst (cl [.fn 605 (.lend 0 .nil)]),v 3]))))]),.ex (.fn 640 (.lend 1 (.lend 2 (cl [.lst (cl [.tup (cl [(ks "fail"),(ks "Seam"),(ks "t")])]),(ki 0)])))),.ret (.tup (cl [v 1,v 2]))])
open TP2 in
theorem ZVs:Tree 645 6 [l] [] ZZe:=Zc (st:=(tD 76)) ["laid","heights","deep","turn","piece","high"] (by refine Zs ?_;k_slotget)
noncomputable def ZNq:CE:=(cl [.asX [3,2,1] (cl [.lst .nil,.lst .nil,(ki 0)]),.as (.tn 4) (.ife (.sub (.v 0) (ki 3)) (ki 3) (.fn 577 (.lend 0 (cl [(ki 4)])))),.ifs (.cmp (v 4) (.c1 .Lt (ki 3))) (cl [.as (.tn 5) (.lst (cl [.tup (cl [(ks "text"),(ks "t"),.k .none]),.tup (cl [(ks "undef"),(ks "u"),.k .none]),.tup (cl [(ks "jump"),.k .none,.k .none])])),.as (.tn 3) (.fn 640 (.lend 1 (.lend 2 (cl [.lst (cl [.sub (.v 5) (v 4)]),(ki 0)]))))]) .nil,.each (.n 6) (.itc "range" (cl [.ife (.sub (.v 0) (ki 3)) (ki 0) (ki 3)])) (cl [.as (.tn 7) (.fn 626 (.lend 0 (cl [v 3,.fn 577 (.lend 0 (cl [(ki 12)]))]))),.ifs (.cmp (.bin .Add (.lenP (.v 1)) (.lenP (.v 7))) (.c1 .LtE (ki 4))) (cl [.as (.tn 3) (.fn 640 (.lend 1 (.lend 2 (cl [v 7,v 3]))))]) .nil]),.as (.tn 4) (.ife (.sub (.v 0) (ki 3)) (ki 2) (.fn 577 (.lend 0 (cl [(ki 4)])))),.ifs (.cmp (v 4) (.c1 .Eq (ki 0))) (cl [.ex (.fn 640 (.lend 1 (.lend 2 (cl [.lst (cl [.tup (cl [(ks "jump"),.k .none,.k .none])]),v 3]))))]) (cl [.ifs (.and (.cmp (v 4) (.c1 .Eq (ki 1))) (.cmp (v 3) (.c1 .Eq (ki 0)))) (cl [.ex (.fn 640 (.lend 1 (.lend 2 (cl [.lst (cl [.tup (cl [(ks "fail"),(ks "E"),(ks "t")])]),v 3]))))]) (cl [.as (.tn 8) (.bin .Add (.ife (.cmp (v 3) (.c1 .Eq (ki 0))) (.lst (cl [.tup (cl [(ks "push"),(ki 5),.k .none])])) (.lst .nil)) (.lst (cl [.tup (cl [(ks "leave"),.k .none,.k .none])]))),.ex (.fn 640 (.lend 1 (.lend 2 (cl [v 8,v 3]))))])]),.ret (.tup (cl [v 1,v 2]))])
open TP2 in
theorem ZVr:Tree 652 8 [l] [] ZNq:=Zc (st:=(tD 77)) ["laid","heights","deep","way","some","turn","piece","tail"] (by refine Zs ?_;k_slotget)
noncomputable def ZZd:CE:=(cl [.as (.tn 4) (.bin .Sub (.sub (.v 2) (v 3)) (.ty "int" (cl [.cmp (.subE (.sub (.v 1) (v 3)) (ki 0)) (.c1 .In (.lst (cl [(ks "jumpif"),(ks "jumpunless")])))]))),.ret (.fn 584 (.lend 0 (cl [.comp (v 3) (.n 3) (.itc "range" (cl [.lenP (.v 2)])) (.so (.cmp (.sub (.v 0) (v 3)) (.c1 .Eq (v 1)))) [2,4] 2])))])
open TP2 in
theorem ZVq:Tree 657 1 [l,f,f,f] [] ZZd:=Zc (st:=(tD 78)) ["need"] (by refine Zs ?_;k_slotget)
noncomputable def ZUk:CE:=(cl [.as (.tn 3) (.comp (v 2) (.n 2) (.itc "range" (cl [.lenP (.v 1)])) (.so (.cmp (.sub (.v 0) (v 2)) (.c1 .Gt (ki 0)))) [1] 2),.ifs (.or (.cmp (v 3) (.c1 .Eq (.lst .nil))) (.and (.not (v 2)) (.or (.sub (.v 0) (ki 3)) (.cmp (.fn 577 (.lend 0 (cl [(ki 3)]))) (.c1 .Eq (ki 0)))))) (cl [.ret (.lst .nil)]) .nil,.asX [5,4] (cl [.fn 584 (.lend 0 (cl [v 3])),.fn 577 (.lend 0 (cl [.lenP (.v 1)]))]),.asX [7,6] (cl [.bin .Add (.bin .Add (v 5) (ki 1)) (.fn 577 (.lend 0 (cl [.bin .Sub (.lenP (.v 1)) (v 5)]))),.fn 584 (.lend 0 (cl [.lst (cl [(ks "rescue"),(ks "ensure")])]))]),.ifs (.cmp (.bi "min" (cl [.sl (.v 1) (.so (v 5)) (.so (v 6))])) (.c1 .Lt (.bin .Sub (.sub (.v 1) (v 4)) (ki 1)))) (cl [.ret (.lst .nil)]) .nil,.ret (.lst (cl [.cls 115 105 (cl [v 7,v 5,v 6,v 4,.bin .Sub (.sub (.v 1) (v 4)) (ki 1)])]))])
open TP2 in
theorem ZVp:Tree 662 5 [l,f,f] [] ZUk:=Zc (st:=(tD 79)) ["goals","goal","front","back","sort"] (by refine Zs ?_;k_slotget)
noncomputable def ZUj:CE:=(cl [.as (.tn 5) (.lst .nil),.each (.t [6,7]) (.itc "enumerate" (cl [v 1])) (cl [.as (.tt [8,9,10]) (v 7),.ifs (.cmp (.sl (.v 8) .nil (.so (ki 4))) (.c1 .Eq (ks "jump"))) (cl [.as (.tn 9) (.ife (.cmp (v 9) (.c1 .Is (.k .none))) (.fn 657 (.lend 0 (cl [v 1,v 2,v 6]))) (.bin .Add (v 6) (v 9)))]) .nil,.ex (.app (.v 5) (.cls 87 77 (cl [v 8,v 9,v 10,.k .none,.bin .Add (v 4) (v 6)])))]),.as (.tn 11) (.fn 662 (.lend 0 (cl [.sl (.v 2) .nil (.so (v 3)),.and (.sub (.v 0) (ki 3)) (.cmp (v 3) (.c1 .Eq (.lenP (.v 1))))]))),.asX [13,12] (cl [.comp (v 2) (.n 2) (.itc "range" (cl [v 3])) (.so (.cmp (.sub (.v 0) (v 2)) (.c1 .Eq (ki 0)))) [2] 2,.lst (cl [(ki 0)])]),.ifs (.and (.not (.sub (.v 0) (ki 3))) (.cmp (.fn 577 (.lend 0 (cl [(ki 3)]))) (.c1 .Eq (ki 0)))) (cl [.as (.tn 13) (.lst (cl [(ki 0),.fn 584 (.lend 0 (cl [v 12]))]))]) .nil,.ret (.fn 674 (.mv 5 (cl [v 11,v 13])))])
open TP2 in
theorem ZVo:Tree 667 9 [l,f,f,f,f] [] ZUj:=Zc (st:=(tD 80)) ["made","spot","row","op","a","b","caught","bare","starts"] (by refine Zs ?_;k_slotget)
noncomputable def ZZc:CE:=(cl [.ret (.cls 150 133 (.cons (ks "method") (.cons (ks "c") (.cons (.k .none) (.cons (.lst (cl [(ks "x"),(ks "y")])) (.mv 0 (cl [v 1,.lst .nil,v 2])))))))])
open TP2 in
theorem ZVn:Tree 674 0 [m,f,f] [] ZZc:=Zc (st:=(tD 81)) [] (by refine Zs ?_;k_slotget)
noncomputable def ZZb:CE:=(cl [.as (.tn 2) (.comp (.cls 87 77 (cl [vf 2 "op",.ife (.cmp (.sl (.fd (.v 2) "op") .nil (.so (ki 4))) (.c1 .Eq (ks "jump"))) (.bin .Add (vf 2 "a") (v 0)) (vf 2 "a"),vf 2 "b",vf 2 "c",vf 2 "line"])) (.n 2) (.ite (vf 0 "rows")) .nil [1] 2),.as (.tn 3) (.lst .nil),.each (.n 4) (.ite (vf 0 "catches")) (cl [.ex (.app (.v 3) (.cls 115 105 (cl [vf 4 "sort",.bin .Add (vf 4 "first") (v 1),.bin .Add (vf 4 "last") (v 1),.bin .Add (vf 4 "target") (v 1),vf 4 "depth"])))]),.ret (.tup (cl [v 2,v 3]))])
open TP2 in
theorem ZVm:Tree 679 3 [f,f] [] ZZb:=Zc (st:=(tD 82)) ["made","caught","one"] (by refine Zs ?_;k_slotget)
noncomputable def ZZa:CE:=(cl [.as (.tn 3) (.comp (v 1) (.n 1) (.ite (vf 0 "rows")) (.so (.cmp (vf 1 "a") (.c1 .NotEq (ks "Seam")))) [] 2),.as (.tn 4) (.lenP (.v 3)),.as (.tt [5,6]) (.fn 679 (cl [v 1,v 4])),.as (.tn 7) (.bin .Add (.ty "list" (cl [vf 0 "starts"])) (.comp (.bin .Add (v 2) (v 0)) (.n 2) (.ite (.sl (.fd (.v 1) "starts") (.so (v 2)) .nil)) .nil [4] 2)),.ret (.fn 674 (.mve (.bin .Add (v 3) (v 5)) (cl [.bin .Add (.ty "list" (cl [vf 0 "catches"])) (v 6),v 7])))])
open TP2 in
theorem ZVl:Tree 684 5 [f,f,f] [] ZZa:=Zc (st:=(tD 83)) ["rows_here","many","made","caught","starts"] (by refine Zs ?_;k_slotget)
noncomputable def ZYz:CE:=(cl [.as (.tn 1) (.comp (.tup (cl [vf 1 "op",.bi "repr" (cl [vf 1 "a"]),vf 1 "b",vf 1 "c",vf 1 "line"])) (.n 1) (.ite (vf 0 "rows")) .nil [] 2),.as (.tn 2) (.comp (.tup (cl [vf 1 "sort",vf 1 "first",vf 1 "last",vf 1 "target",vf 1 "depth"])) (.n 1) (.ite (vf 0 "catches")) .nil [] 2),.ret (.lst (cl [vf 0 "kind",vf 0 "name",vf 0 "params",.ty "list" (cl [vf 0 "slots"]),v 1,v 2,.ty "list" (cl [vf 0 "starts"]),.lenP (.fd (.v 0) "children")]))])
open TP2 in
theorem ZVk:Tree 689 2 [f] [] ZYz:=Zc (st:=(tD 84)) ["all_rows","caught"] (by refine Zs ?_;k_slotget)
noncomputable def ZYy:CE:=(cl [.asT (cl [.tn 1,.tn 2]) (cl [.ty "list" (cl [vf 0 "starts"]),.neg (ki 1)]),.whl (.cmp (v 2) (.c1 .Lt (.lenP (.v 1)))) (cl [.as (.tn 2) (.lenP (.v 1)),.each (.n 3) (.ite (.ty "list" (cl [v 1]))) (cl [.as (.tn 4) (.sub (.fd (.v 0) "rows") (v 3)),.as (.tn 5) (.comp (vf 2 "target") (.n 2) (.ite (vf 0 "catches")) (.so (.cmp (vf 2 "first") (.c2 .LtE (v 0) (.c1 .Lt (vf 2 "last"))))) [3] 2),.as (.tn 5) (.bin .Add (v 5) (.ife (.cmp (.sl (.fd (.v 4) "op") .nil (.so (ki 4))) (.c1 .Eq (ks "jump"))) (.lst (cl [vf 4 "a"])) (.lst .nil))),.as (.tn 5) (.bin .Add (v 5) (.ife (.cmp (vf 4 "op") (.c1 .In (.lst (cl [(ks "jump"),(ks "leave"),(ks "fail")])))) (.lst .nil) (.lst (cl [.bin .Add (v 3) (ki 1)])))),.as (.tn 1) (.bin .Add (v 1) (.comp (v 2) (.n 2) (.ite (v 5)) (.so (.cmp (v 2) (.cp .NotIn (.v 0)))) [1] 2))])]),.ret (v 1)])
open TP2 in
theorem ZVj:Tree 694 5 [f] [] ZYy:=Zc (st:=(tD 85)) ["met","many","spot","row","goals"] (by refine Zs ?_;k_slotget)
noncomputable def ZYx:CE:=(cl [.asX [2,1] (cl [(ki 0),.lst .nil]),.whl (.and (.cmp (.sat (.sub (.fd (.v 0) "rows") (v 1)) "op") (.c1 .Eq (ks "jump"))) (.cmp (v 1) (.cp .NotIn (.v 2)))) (cl [.ex (.app (.v 2) (v 1)),.as (.tn 1) (.sat (.sub (.fd (.v 0) "rows") (v 1)) "a")]),.ret (.ife (.cmp (v 1) (.cp .In (.v 2))) (.k .none) (v 1))])
open TP2 in
theorem ZVi:Tree 701 2 [f] [] ZYx:=Zc (st:=(tD 86)) ["spot","seen"] (by refine Zs ?_;k_slotget)
noncomputable def ZYw:CE:=(cl [.asX [5,4] (cl [.fn 563 (cl [v 0,.lst (cl [v 3])]),.fn 563 (cl [v 1,.lst (cl [v 3])])]),.as (.tn 6) (.fn 684 (cl [v 4,v 5,v 2])),.ifs (.cmp (v 3) (.c1 .Eq (ks "threaded"))) (cl [.asX [8,7] (cl [.bin .Sub (.lenP (.fd (.v 0) "rows")) (ki 1),.fn 701 (cl [v 1])]),.each (.n 9) (.itc "range" (cl [v 7])) (cl [.as (.tn 10) (.sub (.fd (.v 4) "rows") (v 9)),.ifs (.and (.cmp (.sl (.fd (.v 10) "op") .nil (.so (ki 4))) (.c1 .Eq (ks "jump"))) (.cmp (vf 10 "a") (.c1 .Eq (v 7)))) (cl [.as (.tn 11) (.ife (.cmp (v 8) (.c1 .Is (.k .none))) (.sat (.sub (.fd (.v 0) "rows") (v 9)) "a") (.bin .Add (v 7) (v 8))),.as (.sub (.fd (.v 6) "rows") (v 9)) (.cls 87 77 (cl [vf 10 "op",v 11,vf 10 "b",vf 10 "c",vf 10 "line"]))]) .nil])]) .nil,.ret (.fn 689 (cl [v 6]))])
open TP2 in
theorem ZVh:Tree 708 8 [f,f,f,f] [] ZYw:=Zc (st:=(tD 87)) ["one","two","made","many","goal","spot","row","leads_to"] (by refine Zs ?_;k_slotget)
noncomputable def ZYv:CE:=(cl [.asX [4,3] (cl [.fn 551 (cl [v 0]),.fn 551 (cl [v 1])]),.ifs (.and (.cmp (v 2) (.c1 .Eq (ki 1))) (.cmp (.comp (v 1) (.n 1) (.ite (vf 3 "rows")) (.so (.cmp (vf 1 "a") (.c1 .Eq (ks "Seam")))) [] 2) (.c1 .Eq (.lst .nil)))) (cl [.as (.tn 4) (.fn 674 (.mve (.lst .nil) (cl [.lst .nil,.lst (cl [(ki 0)])])))]) .nil,.ret (.fn 689 (cl [.fn 684 (cl [v 3,v 4,v 2])]))])
open TP2 in
theorem ZVg:Tree 713 2 [f,f,f] [] ZYv:=Zc (st:=(tD 88)) ["one","two"] (by refine Zs ?_;k_slotget)
noncomputable def ZYu:CE:=(cl [.as (.tn 5) (.bin .Sub (.lenP (.fd (.v 1) "rows")) (ki 1)),.as (.tn 6) (.lst (cl [.tup (cl [(ks "pop"),.k .none]),.tup (cl [(ks "setg"),(ks "$x")]),.tup (cl [(ks "jumpunless"),.bin .Add (v 5) (ki 1)]),.tup (cl [(ks "leave"),.k .none]),.tup (cl [(ks "swap"),.k .none]),.tup (cl [(ks "append"),.k .none])])),.as (.tn 7) (.fn 584 (.lend 0 (cl [v 6]))),.as (.tt [8,9]) (.fn 679 (cl [v 2,.bin .Add (v 5) (ki 1)])),.as (.tn 10) (.bin .Add (.ty "list" (cl [vf 1 "starts"])) (.comp (.bin .Add (.bin .Add (v 2) (v 0)) (ki 1)) (.n 2) (.ite (vf 2 "starts")) .nil [5] 2)),.as (.tn 8) (.bin .Add (.bin .Add (.sl (.fd (.v 1) "rows") .nil (.so (v 5))) (.lst (cl [.cls 87 77 (cl [.sub (.v 7) (ki 0),.sub (.v 7) (ki 1),.k .none,.k .none,(ki 9)])]))) (v 8)),.as (.tn 11) (.fn 720 (cl [.fn 674 (.mv 8 (cl [.bin .Add (.ty "list" (cl [vf 1 "catches"])) (v 9),v 10]))])),.ret (.cmp (v 11) (.c1 .Eq (.ife (v 4) (ks "") (.bin .Add (.bin .Add (.slE (.sub (.v 3) (ki 0)) .nil (.so (v 5))) (.lst (cl [.k .none]))) (.sub (.v 3) (ki 1))))))])
open TP2 in
theorem ZVf:Tree 725 7 [l,f,f,f,f] [] ZYu:=Zc (st:=(tD 90)) ["many","some","row","made","caught","starts","heard"] (by refine Zs ?_;k_slotget)
noncomputable def ZYt:CE:=(cl [.as (.tn 4) (.bin .Sub (.lenP (.fd (.v 0) "rows")) (ki 1)),.as (.tn 5) (.fn 674 (.mve (vf 2 "rows") (cl [vf 2 "catches",.comp (.bin .Add (v 2) (v 0)) (.n 2) (.ite (vf 1 "starts")) .nil [4] 2]))),.ifs (.cmp (.fn 720 (cl [v 5])) (.c1 .NotEq (.bin .Add (.bin .Mult (.lst (cl [.k .none])) (v 4)) (.sub (.v 3) (ki 1))))) (cl [.ret (.k (.bool false))]) .nil,.ret (.cmp (.fn 689 (cl [.fn 563 (cl [v 5,.lst (cl [(ks "dead rows")])])])) (.c1 .Eq (.fn 689 (cl [.fn 563 (cl [v 1,.lst (cl [(ks "dead rows")])])]))))])
open TP2 in
theorem ZVe:Tree 730 2 [f,f,f,f] [] ZYt:=Zc (st:=(tD 91)) ["many","alone"] (by refine Zs ?_;k_slotget)
noncomputable def ZGx:CE:=(cl [.asX [2,1] (cl [.fn 570 (cl [v 0]),.lst .nil]),.as (.tt [3,4]) (.fn 645 (.lend 1 .nil)),.as (.tn 5) (.fn 667 (.lend 1 (cl [v 3,v 4,.bin .Sub (.lenP (.v 3)) (ki 1),(ki 11)]))),.as (.tt [6,7]) (.fn 652 (.lend 1 .nil)),.as (.tn 8) (.fn 667 (.lend 1 (cl [v 6,v 7,.lenP (.v 6),(ki 31)]))),.each (.t [9,10]) (.ite (.lst (cl [.tup (cl [v 5,v 4]),.tup (cl [v 8,v 7])]))) (cl [.as (.tn 11) (.fn 694 (cl [v 9])),.ex (.app (.v 2) (.comp (.ife (.cmp (v 3) (.cp .In (.v 1))) (.sub (.v 0) (v 3)) (.k .none)) (.n 3) (.itc "range" (cl [.lenP (.v 10)])) .nil [10,11] 2)),.ifs (.cmp (.fn 720 (cl [v 9])) (.c1 .NotEq (.sub (.v 2) (.neg (ki 1))))) (cl [.ret (.k (.bool false))]) .nil]),.asX [13,12] (cl [.bin .Sub (.lenP (.v 3)) (ki 1),.cmp (.subE (.sub (.v 2) (ki 0)) (.neg (ki 1))) (.c1 .IsNot (.k .none))]),.as (.tn 14) (.ty "int" (cl [.and (v 13) (.and (.cmp (.lenP (.fd (.v 8) "starts")) (.c1 .Eq (ki 1))) (.cmp (.fn 577 (.lend 1 (cl [(ki 2)]))) (.c1 .Eq (ki 0))))])),.as (.tn 15) (.fn 684 (cl [v 5,v 8,v 14])),.as (.tn 16) (.lst (cl [.fn 689 (cl [v 5]),.fn 689 (cl [v 8]),.fn 689 (cl [v 15])])),.ifs (.cmp (.fn 720 (cl [v 15])) (.c1 .NotEq (.bin .Add (.slE (.sub (.v 2) (ki 0)) .nil (.so (v 12))) (.sub (.v 2) (ki 1))))) (cl [.ret (.k (.bool false))]) .nil,.as (.tn 17) (.lst (cl [(ks "pushes"),(ks "copies"),(ks "known branches"),(ks "threaded"),(ks "turned branches"),(ks "short jumps"),(ks "dead rows"),(ks "swaps")])),.as (.tn 18) (.fn 577 (.lend 1 (cl [(ki 8)]))),.each (.n 19) (.ite (.slE (.bin .Add (v 17) (v 17)) (.so (v 18)) (.so (.bin .Add (v 18) (.ife (.sub (.v 1) (ki 3)) (ki 1) (ki 3)))))) (cl [.ifs (.cmp (.fn 689 (cl [.fn 563 (cl [v 15,.lst (cl [v 19])])])) (.c1 .NotEq (.fn 708 (cl [v 5,v 8,v 14,v 19])))) (cl [.ret (.k (.bool false))]) .nil]),.as (.tn 20) (.or (.cmp (.subE (.sub (.v 6) (ki 0)) (ki 0)) (.c1 .In (.lst (cl [(ks "text"),(ks "undef"),(ks "fail")])))) (.cmp (.comp (v 1) (.n 1) (.ite (v 3)) (.so (.cmp (.slE (.sub (.v 1) (ki 0)) .nil (.so (ki 4))) (.c1 .Eq (ks "jump")))) [] 2) (.c1 .Eq (.lst .nil)))),.ifs (.and (.not (.sub (.v 1) (ki 3))) (.and (v 20) (.cmp (.fn 689 (cl [.fn 551 (cl [v 15])])) (.c1 .NotEq (.fn 713 (cl [v 5,v 8,v 14])))))) (cl [.ret (.k (.bool false))]) .nil,.ifs (.or (.not (.fn 725 (.lend 1 (cl [v 5,v 8,v 2,v 13])))) (.not (.fn 730 (cl [v 5,v 8,v 15,v 2])))) (cl [.ret (.k (.bool false))]) .nil,.ret (.cmp (.lst (cl [.fn 689 (cl [v 5]),.fn 689 (cl [v 8]),.fn 689 (cl [v 15])])) (.c1 .Eq (v 16)))])
open TP2 in
theorem ZVd:Tree 735 20 [f] [] ZGx:=Zc (st:=(tD 92)) ["box","low","laid","heights","first","more","deeps","second","code","some","ways","many","is_led","skip","both","before","names","at","name","is_clear"] (by refine Zs ?_;k_slotget)
end
section
structure Ret(k a:Nat)(args:List OV)(v:OV)(outs:List (Option OV)):Prop where
 h:∀{N:Nat} {E:Prop} {K:OV->List (Option OV)->Prop},K v outs->CallP (N+k) E a args K
noncomputable def Zgd(pols:List Pol)(K:OV->List (Option OV)->Prop)(t:Fl)(σ:Sg):Prop:=ZPv (λv=>K v (Zna pols σ)) t
section
variable{a m k N:Nat}{pols:List Pol}{dfl:List MV}{b:CE}{args:List OV}{v:OV}{outs:List (Option OV)}{σ:Sg}{E:Prop}{α β:Type}
theorem CallP.of{K:OV->List (Option OV)->Prop}(T:Tree a m pols dfl b)(σ:Sg)(h:(decide (args.length<=pols.length/\pols.length - args.length<=dfl.length),Zah (args++(dfl.drop (dfl.length - (pols.length - args.length))).map .f) m)=(true,σ))(q:(mg N b).s E σ (Zgd pols K)):CallP (N+1) E a args K:=by
 obtain⟨h1,rfl⟩:=Prod.mk.inj h
 have h1:=of_decide_eq_true h1
 exact T.call h1.1 h1.2 q
theorem Ret.of(T:Tree a m pols dfl b)(σ:Sg)(h:(decide (args.length<=pols.length/\pols.length - args.length<=dfl.length),Zah (args++(dfl.drop (dfl.length - (pols.length - args.length))).map .f) m)=(true,σ))
  (q:∀N (E:Prop) K,K v outs->(mg (N+k) b).s E σ (Zgd pols K)):Ret (k+1) a args v outs:=⟨λ{N E K} hK=>.of T σ h (q N E K hK)⟩
theorem Za{K:α->Prop}{o:Option α}{a:α}(e:o=some a)(h:K a):onS K o:=e▸h
theorem Zq{A B:Prop}{b:Bool}(h1:b=true->A)(h2:b=false->B):onB A B b:=by
 cases b
 .exact h2 rfl
 .exact h1 rfl
theorem Zv{A B:Prop}{b:Bool}(e:b=true)(h:A):onB A B b:=e▸h
theorem Yz{A B:Prop}{b:Bool}(e:b=false)(h:B):onB A B b:=e▸h
noncomputable def lpK(τ:Sg)(R:OV->Sg->Prop)(Q:Sg->Prop)(t:Fl)(σ:Sg):Prop:=match t with
 | .ret v=>R v σ
 |_=>stK (fgt τ σ) Q
theorem ForP.ex{bind:MV->Sg->Option Sg}{body:Sg->(Fl->Sg->Prop)->Prop}{ms:List MV}{Q:Fl->Sg->Prop}(l:List α)(f:α->MV)(T:Nat->β->Prop)(S:β->Sg)(b:β)(h0:(ms,σ)=(l.map f,S b))(t0:T 0 b)
  (hs:∀k (hk:k < l.length) x,T k x->∀R:Sg->Prop,(∀y,T (k+1) y->R (S y))->onS (λσ=>stK σ λσ=>body σ (lpK (S b) (λv=>Q (.ret v)) R)) (bind (f l[k]) (S x)))(hf:∀x,T l.length x->Q .next (S x)):ForP bind body ms σ Q:=by
 obtain⟨h1,h2⟩:=Prod.mk.inj h0
 subst h1 h2
 refine⟨λk σ=>∃x,T k x/\σ=S x,⟨b,t0,rfl⟩,λk m hm σ ⟨x,t,e⟩=>?_,λσ ⟨x,t,e⟩=>e▸hf x (List.length_map f▸t)⟩
 rw[List.getElem?_map]at hm
 obtain⟨b,hb',rfl⟩:=Option.map_eq_some_iff.mp hm
 obtain⟨hk,rfl⟩:=List.getElem?_eq_some_iff.mp hb'
 subst e
 exact hs k hk x t _ λy t=>⟨y,t,rfl⟩
theorem ForP.st{bind:MV->Sg->Option Sg}{body:Sg->(Fl->Sg->Prop)->Prop}{ms:List MV}{Q:Fl->Sg->Prop}(l:List α)(f:α->MV)(S:Nat->Sg)(h0:(ms,σ)=(l.map f,S 0))
  (hs:∀k (hk:k < l.length) R (Q:Sg->Prop),Q (S (k+1))->onS (λσ=>stK σ λσ=>body σ (lpK (S 0) R Q)) (bind (f l[k]) (S k)))(hf:Q .next (S l.length)):ForP bind body ms σ Q:=
 .ex l f (λk b=>b=k) S 0 h0 rfl (λk hk x t R H=>by subst t;exact hs x hk _ R (H _ rfl)) λx t=>t▸hf
theorem WhileP.ex{test:Sg->(Bool->Sg->Prop)->Prop}{body:Sg->(Fl->Sg->Prop)->Prop}{Q:Fl->Sg->Prop}(T:Nat->β->Prop)(S:β->Sg)(b:β)(n:Nat)(hn:n < rounds)(h0:σ=S b)(t0:T n b)
  (hs:∀k x,T k x->∀R:Nat->Sg->Prop,(∀k y,T k y->R k (S y))->test (S x) λz σ=>onB (∃j,k=j+1/\body σ (lpK (S b) (λv=>Q (.ret v)) (R j))) (Q .next σ) z):WhileP test body σ Q:=by
 subst h0
 refine⟨λk σ=>∃x,T k x/\σ=S x,n,hn,⟨b,t0,rfl⟩,λk σ ⟨x,t,e⟩=>?_⟩
 subst e
 refine(congrArg (test (S x)) (funext λz=>funext λσ=>propext ?_)).mp (hs k x t (λj σ=>∃y,T j y/\σ=S y) λj y t=>⟨y,t,rfl⟩)
 cases z
 .exact⟨λh=>⟨λ_=>h,nofun⟩,λh=>h.1 rfl⟩
 .exact⟨λh=>⟨nofun,λ_=>h⟩,λh=>h.2 rfl⟩
theorem Zui{step:MV->Option MV->Prop}{f:α->MV}{g:α->Option MV}:∀{l:List α},(∀a∈l,step (f a) (g a))->ZOf step (l.map f) (l.map g)
 | [],_=>rfl
 |a::l,h=>⟨_,_,rfl,h a List.mem_cons_self,Zui λb hb=>h b (List.mem_cons_of_mem _ hb)⟩
theorem CompP.fm{bind:MV->Sg->Option Sg}{cond:Sg->(Bool->Sg->Prop)->Prop}{elt:Sg->(OV->Sg->Prop)->Prop}{ms:List MV}{K:List MV->Prop}(l:List α)(f:α->MV)(g:α->Option MV)(h0:ms=l.map f)
  (hs:∀a∈l,∀R:Option MV->Prop,R (g a)->onS (λσ=>stK σ λσ=>cond σ λb σ=>onB (elt σ λv _=>R (some v.frz)) (R none) b) (bind (f a) σ))(hK:K (l.filterMap g)):CompP bind cond elt ms σ K:=by
 subst h0
 refine⟨l.map g,Zui λa ha=>hs a ha (λx=>g a=x) rfl,?_⟩
 rw[List.filterMap_map];exact hK
theorem CompP.mp{bind:MV->Sg->Option Sg}{elt:Sg->(OV->Sg->Prop)->Prop}{ms:List MV}{K:List MV->Prop}(l:List α)(f g:α->MV)(h0:ms=l.map f)
  (hs:∀a∈l,∀R:MV->Prop,R (g a)->onS (λσ=>stK σ λσ=>elt σ λv _=>R v.frz) (bind (f a) σ))(hK:K (l.map g)):CompP bind (λσ Q=>Q true σ) elt ms σ K:=
 .fm l f (λa=>some (g a)) h0 (λa ha R hR=>hs a ha (λv=>R (some v)) hR) (by rw[List.filterMap_eq_map'];exact hK)
end
end
section
set_option genCtorIdx true in
inductive Op where
 |push|text|pop|dup|swap|self|getl|setl|geti|seti|getg|setg|setc|jump|jumpif|jumpunless|jumpnil|undef|leave|fail|blockgiven|append
 deriving DecidableEq
noncomputable def Op.n:Op->String
 | .push=>"push"| .text=>"text"| .pop=>"pop"| .dup=>"dup"| .swap=>"swap"| .self=>"self"| .getl=>"getl"| .setl=>"setl"| .geti=>"geti"| .seti=>"seti"
 | .getg=>"getg"| .setg=>"setg"| .setc=>"setc"| .jump=>"jump"| .jumpif=>"jumpif"| .jumpunless=>"jumpunless"| .jumpnil=>"jumpnil"| .undef=>"undef"| .leave=>"leave"| .fail=>"fail"
 | .blockgiven=>"blockgiven"| .append=>"append"
noncomputable def Op.m(o:Op):MV:=.str (Str.ofString o.n)
noncomputable def Op.isJ:Op->Bool
 | .jump| .jumpif| .jumpunless| .jumpnil=>true
 |_=>false
noncomputable def Op.isEnd:Op->Bool
 | .jump| .leave| .fail=>true
 |_=>false
noncomputable def Op.isBr:Op->Bool
 | .jumpif| .jumpunless=>true
 |_=>false
noncomputable def Op.isPl:Op->Bool
 | .push| .self| .getl| .geti| .getg| .dup| .blockgiven=>true
 |_=>false
noncomputable def Op.isSt:Op->Bool
 | .setl| .seti| .setg| .setc=>true
 |_=>false
noncomputable def Op.tk:Op->Nat
 | .pop| .dup| .setl| .seti| .setg| .setc| .jumpif| .jumpunless| .jumpnil| .leave=>1
 | .swap| .append=>2
 |_=>0
noncomputable def Op.pt:Op->Nat
 | .push| .text| .self| .getl| .geti| .getg| .jumpnil| .undef| .blockgiven| .append=>1
 | .dup| .swap=>2
 |_=>0
structure Rw where
 op:Op
 a:MV
 b:MV
 line:Int
noncomputable def Rw.t(r:Rw):Nat:=match r.a with
 | .int i=>i.toNat
 |_=>0
noncomputable def Rw.to(r:Rw)(t:Nat):Rw:={r with a:=.int t}
noncomputable def Rw.m(r:Rw):MV:=.obj 87 [(Str.ofString "op",r.op.m),(Str.ofString "a",r.a),(Str.ofString "b",r.b),(Str.ofString "c",.none),(Str.ofString "line",.int r.line)]
noncomputable def orw:Option Rw->MV
 |none=>.none
 |some r=>r.m
structure Ct where
 sort:String
 first:Nat
 last:Nat
 target:Nat
 depth:Nat
noncomputable def nat(n:Nat):MV:=.int (n:Int)
noncomputable def Ct.m(c:Ct):MV:=.obj 115 [(Str.ofString "sort",.str (Str.ofString c.sort)),(Str.ofString "first",nat c.first),(Str.ofString "last",nat c.last),(Str.ofString "target",nat c.target),(Str.ofString "depth",nat c.depth)]
structure Cd where
 rows:List Rw
 catches:List Ct
 starts:List Nat
noncomputable def Cd.m(c:Cd):MV:=.obj 150 [(Str.ofString "kind",.str (Str.ofString "method")),(Str.ofString "name",.str (Str.ofString "c")),(Str.ofString "params",.none),(Str.ofString "slots",.lst [.str (Str.ofString "x"),.str (Str.ofString "y")]),
 (Str.ofString "rows",.lst (c.rows.map Rw.m)),(Str.ofString "catches",.lst (c.catches.map Ct.m)),(Str.ofString "children",.lst []),(Str.ofString "starts",.lst (c.starts.map nat)),(Str.ofString "number",.none)]
noncomputable def ot:Option Nat->MV
 |none=>.none
 |some n=>nat n
end
theorem ZCa{s t:String}:Str.ofString s=Str.ofString t↔s=t:=by
 refine⟨λh=>?_,λh=>h▸rfl⟩
 rw[Str.ofString_eq_toList,Str.ofString_eq_toList]at h
 have h1:s.toList.map Char.toNat=t.toList.map Char.toNat:=by simpa using congrArg (λx=>x.cps.toList) h
 exact String.toList_inj.mp ((List.map_inj_right λa b e=>Char.ext (UInt32.toNat_inj.mp e)).mp h1)
theorem Un(s t:String):(Str.ofString s==Str.ofString t)=(s==t):=by
 rw[Bool.eq_iff_iff,beq_iff_eq,beq_iff_eq,ZCa]
theorem sok(s:String):PyData.strOk (Str.ofString s)=true:=by
 rw[Str.ofString_eq_toList]
 unfold PyData.strOk
 rw[List.all_toArray,List.all_map,List.all_eq_true]
 intro c _
 have h:c.toNat.isValidChar:=c.valid
 have:c.toNat < 0x110000:=h.elim (λh=>Nat.lt_trans h (by decide)) (·.2)
 simpa using this
theorem Zdn{n:Nat}(s:String):Zdc n (.str (Str.ofString s))=some (.str (Str.ofString s)):=if_pos (sok s)
noncomputable def Op.of(s:String):Op:=(([.push,.text,.pop,.dup,.swap,.self,.getl,.setl,.geti,.seti,.getg,.setg,.setc,.jump,.jumpif,.jumpunless,.jumpnil,.undef,.leave,.fail,.blockgiven,.append]:List Op).find? λo=>o.n==s).getD .push
theorem Op.of_n(o:Op):Op.of o.n=o:=by cases o <;> rfl
theorem Zlc(a b:Op):(Str.ofString a.n==Str.ofString b.n)=(a==b):=by
 rw[Un,Bool.eq_iff_iff,beq_iff_eq,beq_iff_eq]
 exact⟨λh=>by rw[<- a.of_n,h,b.of_n],λh=>h▸rfl⟩
theorem Zxv{a b:Str}:PyData.eqv (.str a) (.str b)=(a==b):=by unfold PyData.eqv;rfl
theorem Zrc(a b:String):Zil (.str (Str.ofString a)) (.str (Str.ofString b))=some (a==b):=by
 unfold Zil
 rw[Zdn,Zdn]
 show some (PyData.eqv _ _)=_
 rw[Zxv,Un]
theorem Zhu(a b:Op):Ym .Eq a.m (.f b.m)=some (a==b):=(Zrc a.n b.n).trans (by rw[<- Un,Zlc])
theorem ZQr(a b:Op):Ym .NotEq a.m (.f b.m)=some (!(a==b)):=(congrArg (Option.map (!·)) (Zrc a.n b.n)).trans (by rw[<- Un,Zlc];rfl)
theorem Zos{n:Nat}:∀l:List String,Yx n (l.map λs=>MV.str (Str.ofString s))=some (l.map λs=>.str (Str.ofString s))
 | []=>rfl
 |a::l=>by
  show(Zdc n _).bind (λx=>(Yx n (l.map _)).map _)=_
  rw[Zdn,Zos l];rfl
theorem ZOb(s:String):∀l:List String,(l.map λs=>PyData.str (Str.ofString s)).any (λy=>PyData.eqv y (.str (Str.ofString s)))=l.contains s
 | []=>rfl
 |a::l=>by rw[List.map_cons,List.any_cons,ZOb s l,Zxv,Un,List.contains_cons,Bool.beq_comm]
theorem Zcl(s:String)(l:List String):Zdl (.str (Str.ofString s)) (l.map λs=>.str (Str.ofString s))=some (l.contains s):=by
 unfold Zdl
 rw[Zdn,Zos,<- ZOb];rfl
theorem Zjv(o:Op):∀l:List Op,(l.map Op.n).contains o.n=l.contains o
 | []=>rfl
 |a::l=>by rw[List.map_cons,List.contains_cons,List.contains_cons,Zjv o l,<- Un,Zlc]
theorem Zlr(o:Op)(l:List Op):Zdl o.m (l.map Op.m)=some (l.contains o):=by
 have h:=Zcl o.n (l.map Op.n)
 rw[List.map_map]at h
 exact h.trans (congrArg some (Zjv o l))
noncomputable def opJ:List Op:=[.jump,.jumpif,.jumpunless,.jumpnil]
section
noncomputable def Jf:MV->Prop
 | .none| .bool _| .int _=>True
 | .str s=>PyData.strOk s=true
 |_=>False
noncomputable def Rw.pl(r:Rw):Prop:=Jf r.a/\Jf r.b
structure Ok(c:Cd):Prop where
 len:c.rows.length<=60
 jmp:∀r∈c.rows,r.op.isJ=true->r.a=nat r.t/\r.t < c.rows.length
 pln:∀r∈c.rows,r.pl
 nxt:∀p r,c.rows[p]?=some r->r.op.isEnd=false->p+1 < c.rows.length
 cat:∀k∈c.catches,k.first < k.last/\k.last<=c.rows.length/\k.target < c.rows.length
 cln:c.catches.length<=10
 sta:∀s∈c.starts,s < c.rows.length
 sln:c.starts.length<=10
 sne:c.starts≠[]
theorem Ok.pos{c:Cd}(ok:Ok c):0 < c.rows.length:=by
 cases h:c.starts with
 |nil=>exact absurd h ok.sne
 |cons s r=>exact Nat.lt_of_le_of_lt (Nat.zero_le _) (ok.sta s (by rw[h];simp))
noncomputable def Cd.mark(c:Cd)(i:Nat):Bool:=c.rows.any (λr=>r.op.isJ&&r.t==i)||c.catches.any (λk=>k.target==i)||c.starts.contains i
noncomputable def plc(rows:List (Option Rw))(i:Nat):Nat:=((rows.take i).filterMap id).length
noncomputable def Rw.re(r:Rw)(f:Nat->Nat):Rw:=if r.op.isJ then r.to (f r.t)else r
noncomputable def Ct.re(k:Ct)(f:Nat->Nat):Option Ct:=if f k.first < f k.last then some ⟨k.sort,f k.first,f k.last,f k.target,k.depth⟩else none
noncomputable def Cd.pressed(c:Cd)(rows:List (Option Rw)):Cd:=⟨(rows.filterMap id).map (·.re (plc rows)),c.catches.filterMap (·.re (plc rows)),c.starts.map (plc rows)⟩
noncomputable def Cd.eoj(c:Cd):Nat->Nat->Option Nat
 |0,_=>none
 |k+1,p=>match c.rows[p]? with
  |some r=>if r.op==.jump then c.eoj k r.t else some p
  |none=>none
noncomputable def Cd.fin(c:Cd)(p:Nat):Nat:=(c.eoj c.rows.length p).getD p
noncomputable def Cd.opAt(c:Cd)(p:Nat):Option Op:=(c.rows[p]?).map (·.op)
noncomputable def Cd.thr(c:Cd)(r:Rw):Rw:=if r.op.isJ then(if r.op==.jump&&c.opAt (c.fin r.t)==some .leave then⟨.leave,.none,.none,r.line⟩else r.to (c.fin r.t))else r
noncomputable def Cd.threaded(c:Cd):Cd:=c.pressed (c.rows.map λr=>some (c.thr r))
noncomputable def Cd.succ(c:Cd)(p:Nat):List Nat:=match c.rows[p]? with
 |none=>[]
 |some r=>(if r.op.isJ then[r.t]else[])++(if r.op.isEnd then[]else[p+1])++(c.catches.filter λk=>decide (k.first<=p)&&decide (p < k.last)).map (·.target)
inductive Reach (c:Cd):Nat->Prop
 |start {p:Nat}:p∈c.starts->Reach c p
 |step {p q:Nat}:Reach c p->q∈c.succ p->Reach c q
open Classical in
noncomputable def Cd.live(c:Cd)(p:Nat):Bool:=decide (Reach c p)
noncomputable def Cd.undead(c:Cd):Cd:=c.pressed (c.rows.zipIdx.map λx=>if c.live x.2 then some x.1 else none)
noncomputable def Yu(l:List Op):Option Rw->Bool
 |some r=>l.contains r.op
 |none=>false
noncomputable def Zqn:List Op:=[.push,.self,.getl,.geti,.getg,.dup,.blockgiven]
noncomputable def ZHn:List Op:=[.setl,.seti,.setg,.setc]
noncomputable def Xe:List Op:=[.jumpif,.jumpunless]
noncomputable def win(g:Nat->List (Option Rw)->List (Option Rw)):Nat->List (Option Rw)->List (Option Rw)
 |0,rows=>rows
 |k+1,rows=>g k (win g k rows)
noncomputable abbrev Rows:=List (Option Rw)
noncomputable def at_(rows:Rows)(p:Nat):Option Rw:=(rows[p]?).join
noncomputable def Je(mk:Nat->Bool)(p:Nat)(rows:Rows):Rows:=
 if Yu Zqn (at_ rows p)&&Yu [.pop] (at_ rows (p+1))&&!mk (p+1)then(rows.set p none).set (p+1) none else rows
noncomputable def Yr(mk:Nat->Bool)(p:Nat)(rows:Rows):Rows:=
 if Yu [.dup] (at_ rows p)&&Yu ZHn (at_ rows (p+1))&&Yu [.pop] (at_ rows (p+2))&&(!mk (p+1)&&!mk (p+2))then(rows.set p none).set (p+2) none else rows
noncomputable def Jh:MV->Bool
 | .none=>false
 | .bool b=>b
 |_=>true
noncomputable def gK(c:Cd)(p:Nat)(rows:Rows)(r b:Rw):Rows:=
 if Xe.contains b.op then(rows.set p none).set (p+1) (if Jh r.a==(b.op==.jumpif)then some ⟨.jump,b.a,.none,b.line⟩else none)
 else if b.op==.jump then(match c.rows[b.t]? with|some br=>if Xe.contains br.op then(rows.set p none).set (p+1) (some (b.to (if Jh r.a==(br.op==.jumpif)then br.t else b.t+1)))else rows|none=>rows)
 else rows
noncomputable def Ya(c:Cd)(mk:Nat->Bool)(p:Nat)(rows:Rows):Rows:=match at_ rows p,at_ rows (p+1)with
 |some r,some b=>if !(r.op==.push)||mk (p+1)then rows else gK c p rows r b
 |_,_=>rows
noncomputable def Xg(mk:Nat->Bool)(p:Nat)(rows:Rows):Rows:=match at_ rows p,at_ rows (p+1)with
 |some r,some b=>if Xe.contains r.op&&b.op==.jump&&r.t==p+2&&!mk (p+1)then(rows.set p (some ⟨if r.op==.jumpif then .jumpunless else .jumpif,b.a,.none,r.line⟩)).set (p+1) none else rows
 |_,_=>rows
noncomputable def Jd(mk:Nat->Bool)(p:Nat)(rows:Rows):Rows:=
 if !Yu [.swap] (at_ rows (p+1))||mk (p+1)then rows
 else if Yu [.swap] (at_ rows p)then(rows.set p none).set (p+1) none
 else if Yu [.dup] (at_ rows p)then rows.set (p+1) none else rows
noncomputable def Zg(p:Nat)(r:Rw):Option Rw:=if r.op.isJ&&r.t==p+1 then(if Xe.contains r.op then some ⟨.pop,.none,.none,r.line⟩else none)else some r
noncomputable def Cd.all(c:Cd):Rows:=c.rows.map some
noncomputable def Cd.pushes(c:Cd):Cd:=c.pressed (win (Je c.mark) (c.rows.length - 1) c.all)
noncomputable def Cd.copies(c:Cd):Cd:=c.pressed (win (Yr c.mark) (c.rows.length - 2) c.all)
noncomputable def Cd.known(c:Cd):Cd:=c.pressed (win (Ya c c.mark) (c.rows.length - 1) c.all)
noncomputable def Cd.turned(c:Cd):Cd:=c.pressed (win (Xg c.mark) (c.rows.length - 1) c.all)
noncomputable def Cd.swaps(c:Cd):Cd:=c.pressed (win (Jd c.mark) (c.rows.length - 1) c.all)
noncomputable def Cd.short(c:Cd):Cd:=c.pressed (c.rows.zipIdx.map λx=>Zg x.2 x.1)
end
section
noncomputable def bl(n:Nat)(f:Nat->Bool):List MV:=(List.range n).map λi=>.bool (f i)
theorem Zmk{n:Nat}{f:Nat->Bool}:(bl n f).length=n:=by unfold bl;rw[List.length_map,List.length_range]
theorem Ztu{n:Nat}{f:Nat->Bool}{t:Nat}(h:t < n):(bl n f)[t]?=some (.bool (f t)):=by unfold bl;rw[List.getElem?_map,List.getElem?_range h];rfl
theorem ZSw{n:Nat}{f:Nat->Bool}{t:Nat}(h:¬t < n):(bl n f)[t]?=none:=List.getElem?_eq_none (by rw[Zmk];exact Nat.le_of_not_lt h)
theorem ZNn{n:Nat}{f g:Nat->Bool}(h:∀i,i < n->f i=g i):bl n f=bl n g:=List.map_congr_left λi hi=>by rw[h i (List.mem_range.mp hi)]
theorem ZNm{n:Nat}{f:Nat->Bool}{l:List MV}(hl:l.length=n)(h:∀i,i < n->l[i]?=some (.bool (f i))):l=bl n f:=List.ext_getElem? λi=>by
 by_cases q:i < n
 .rw[h i q,Ztu q]
 .rw[ZSw q,List.getElem?_eq_none (by rw[hl];exact Nat.le_of_not_lt q)]
theorem ZBb{n:Nat}:List.replicate n (MV.bool false)=bl n λ_=>false:=ZNm List.length_replicate λi h=>by rw[List.getElem?_replicate,if_pos h]
theorem ZNk{n:Nat}{f:Nat->Bool}{t:Nat}:(bl n f).set t (.bool true)=bl n λi=>f i||i==t:=ZNm (by rw[List.length_set,Zmk]) λi h=>by
 rw[List.getElem?_set,Zmk,Ztu h]
 by_cases q:t=i
 .subst q;rw[if_pos rfl,if_pos h,beq_self_eq_true,Bool.or_true]
 .rw[if_neg q,beq_eq_false_iff_ne.mpr (Ne.symm q),Bool.or_false]
theorem Zwb{vs:List MV}{t:Nat}{m:MV}(h:t < vs.length):Zgz (.l vs) (nat t) m=some (.l (vs.set t m)):=by
 show(if 0<=(t:Int)/\(t:Int).toNat < vs.length then _ else _:Option (List MV)).map OV.l=_
 rw[if_pos ⟨Int.natCast_nonneg t,h⟩];rfl
theorem Zkv{n t:Nat}{f:Nat->Bool}(h:t < n):Zgz (.l (bl n f)) (nat t) (.bool true)=some (.l (bl n λi=>f i||i==t)):=(Zwb (by rw[Zmk];exact h)).trans (by rw[ZNk])
theorem Zwl{x:MV}{i:Int}(n:Nat)(e:i=n)(h:n<=Zb):Zcs .Mult (.lst [x]) (.int i)=some (.l (List.replicate n x)):=e▸if_pos ⟨Int.natCast_nonneg n,Int.ofNat_le.mpr h⟩
theorem ZRq(o:Op):opJ.contains o=o.isJ:=by cases o <;> rfl
theorem ZFb(o:Op):Zdl o.m (opJ.map Op.m)=some o.isJ:=ZRq o▸Zlr o opJ
theorem Zaq{α:Type}{l:List α}{k:Nat}(h:k < l.length)(p:α->Bool):(l.take (k+1)).any p=((l.take k).any p||p l[k]):=by
 rw[List.take_succ_eq_append_getElem h,List.any_append,List.any_cons,List.any_nil,Bool.or_false]
theorem Ok.lt{c:Cd}(ok:Ok c):c.rows.length < Zb:=Nat.lt_of_le_of_lt ok.len (by decide)
variable{c:Cd}{k:Nat}
noncomputable def mkR(c:Cd)(k i:Nat):Bool:=(c.rows.take k).any λr=>r.op.isJ&&r.t==i
noncomputable def mkC(c:Cd)(k i:Nat):Bool:=mkR c c.rows.length i||(c.catches.take k).any λq=>q.target==i
noncomputable def mkS(c:Cd)(k i:Nat):Bool:=mkC c c.catches.length i||(c.starts.take k).any λq=>q==i
noncomputable abbrev ZQu(c:Cd)(f:Nat->Bool):Sg:=[some (.f c.m),some (.l (bl (c.rows.length+1) f)),none,none,none]
theorem ZQy(hk:k < c.rows.length)(h:c.rows[k].op.isJ=true):(λi=>mkR c k i||i==c.rows[k].t)=mkR c (k+1):=funext λi=>by
 unfold mkR;rw[Zaq hk,h,Bool.true_and,Bool.beq_comm]
theorem ZQz(hk:k < c.rows.length)(h:c.rows[k].op.isJ=false):mkR c (k+1)=mkR c k:=funext λi=>by
 unfold mkR;rw[Zaq hk,h,Bool.false_and,Bool.or_false]
theorem ZRa(hk:k < c.catches.length):(λi=>mkC c k i||i==c.catches[k].target)=mkC c (k+1):=funext λi=>by
 unfold mkC;rw[Zaq hk,Bool.or_assoc,Bool.beq_comm]
theorem ZQv(hk:k < c.starts.length):(λi=>mkS c k i||i==c.starts[k])=mkS c (k+1):=funext λi=>by
 unfold mkS;rw[Zaq hk,Bool.or_assoc,Bool.beq_comm]
theorem ZRb:mkR c c.rows.length=mkC c 0:=funext λi=>(Bool.or_false _).symm
theorem ZQx:mkC c c.catches.length=mkS c 0:=funext λi=>(Bool.or_false _).symm
theorem ZQw:mkS c c.starts.length=c.mark:=funext λi=>by
 unfold mkS mkC mkR Cd.mark
 rw[List.take_length,List.take_length,List.take_length,List.any_beq']
theorem ZCu(ok:Ok c):Ret 1 445 [.f c.m] (.f (.lst (bl (c.rows.length+1) c.mark))) [none]:=.of ZWn [some (.f c.m),none,none,none,none] rfl λN E K hK=>by
 conv=>whnf
 refine Za (Zwl (c.rows.length+1) (by rw[List.length_map];rfl) ok.lt) ?_
 rw[ZBb]
 refine ForP.st c.rows Rw.m (λk=>ZQu c (mkR c k)) rfl (λk hk R Q hQ=>?_) (ForP.st c.catches Ct.m (λk=>ZQu c (mkC c k)) (ZRb▸rfl) (λk hk R Q hQ=>?_) (ForP.st c.starts nat (λk=>ZQu c (mkS c k)) (ZQx▸rfl) (λk hk R Q hQ=>?_) (ZQw▸hK)))
 .conv=>whnf
  refine Za (ZFb _) (Zq (λh=>?_) λh=>(ZQz hk h▸hQ))
  have j:=ok.jmp _ (List.getElem_mem hk) h
  conv=>whnf
  rw[j.1]
  exact Za (Zkv (Nat.lt_succ_of_lt j.2)) (ZQy hk h▸hQ)
 .conv=>whnf
  exact Za (Zkv (Nat.lt_succ_of_lt (ok.cat _ (List.getElem_mem hk)).2.2)) (ZRa hk▸hQ)
 .conv=>whnf
  exact Za (Zkv (Nat.lt_succ_of_lt (ok.sta _ (List.getElem_mem hk)))) (ZQv hk▸hQ)
end
section
noncomputable def Rw.o(r:Rw):OV:=.o 87 [("op",.f r.op.m),("a",.f r.a),("b",.f r.b),("c",.f .none),("line",.f (.int r.line))]
noncomputable def Ct.o(c:Ct):OV:=.o 115 [("sort",.f (.str (Str.ofString c.sort))),("first",.f (nat c.first)),("last",.f (nat c.last)),("target",.f (nat c.target)),("depth",.f (nat c.depth))]
noncomputable def Cd.o(c:Cd)(own:Bool):OV:=.o 150 [("kind",.f (.str "method")),("name",.f (.str "c")),("params",.f .none),("slots",.f (.lst [.str "x",.str "y"])),
 ("rows",match own with|true=>.l (c.rows.map Rw.m)|false=>.f (.lst (c.rows.map Rw.m))),("catches",.f (.lst (c.catches.map Ct.m))),("children",.f (.lst [])),("starts",.f (.lst (c.starts.map nat))),("number",.f .none)]
section
variable{m:Nat}{r:Rw}{c:Cd}{k:Ct}{t p:Nat}
theorem Qw{o:Op}{a b:MV}{i:Int}:Ret 1 77 [.o 87 [],.f o.m,.f a,.f b,.f .none,.f (.int i)] (.f .none) [some (Rw.o ⟨o,a,b,i⟩),none,none,none,none,none]:=.of t77 _ rfl λN E K hK=>hK
theorem Zgx:Ret 2 84 [.f r.m,.f (nat t)] (r.to t).o [some (.f r.m),none]:=.of t84 _ rfl λN E K hK=>Qw.h hK
theorem Zix{s:String}{a b d e:MV}:Ret 1 105 [.o 115 [],.f (.str (Str.ofString s)),.f a,.f b,.f d,.f e] (.f .none) [some (.o 115 [("sort",.f (.str (Str.ofString s))),("first",.f a),("last",.f b),("target",.f d),("depth",.f e)]),none,none,none,none,none]:=.of ZXf _ rfl λN E K hK=>hK
theorem ZRg{a b:Nat}:decide ((a:Int)<=b)=decide (a<=b):=decide_eq_decide.mpr Int.ofNat_le
theorem ZOz{a b:Nat}:decide ((a:Int) < b)=decide (a < b):=decide_eq_decide.mpr Int.ofNat_lt
noncomputable def Ct.cov(k:Ct)(p:Nat):Bool:=decide (k.first<=p)&&decide (p < k.last)
theorem Zkq:Ret 1 112 [.f k.m,.f (nat p)] (.f (.bool (k.cov p))) [some (.f k.m),none]:=.of ZXe _ rfl λN E K hK=>by
 unfold Ct.cov at hK
 refine Zq (λh=>?_) λh=>?_
 .rw[<- ZRg,h,<- ZOz]at hK;exact hK
 .rw[<- ZRg,h]at hK;exact hK
theorem Zkt{own:Bool}:Ret 1 133 [.o 150 [],.f (.str "method"),.f (.str "c"),.f .none,.f (.lst [.str "x",.str "y"]),(match own with|true=>.l (c.rows.map Rw.m)|false=>.f (.lst (c.rows.map Rw.m))),.f (.lst (c.catches.map Ct.m)),.f (.lst []),.f (.lst (c.starts.map nat))] (.f .none) [some (c.o own),none,none,none,none,none,none,none,none]:=.of ZXd _ rfl λN E K hK=>by
 cases own <;> exact hK
theorem Yk{o:Option Rw}{l:List Op}:Ret 1 431 [.f (orw o),.f (.tup (l.map Op.m))] (.f (.bool (Yu l o))) [none,none]:=.of ZWp _ rfl λN E K hK=>by
 cases o with
 |none=>exact hK
 |some r=>
  conv=>whnf
  exact Za (Zlr r.op l) hK
theorem Zbp{d:Cd}:Ret 2 147 [.f c.m,.f (.lst (d.rows.map Rw.m)),.f (.lst (d.catches.map Ct.m)),.f (.lst (d.starts.map nat)),.f (.lst [])] (d.o false) [some (.f c.m),none,none,none,none]:=.of ZTo _ rfl λN E K hK=>(Zkt (c:=d) (own:=false)).h hK
theorem ZCn{v:MV}(h:Jf v):Ret 1 438 [.f v] (.f (.bool (Jh v))) [none]:=.of ZWo _ rfl λN E K hK=>by
 cases v with
 |none=>exact hK
 |bool b=>cases b <;> exact hK
 |int i=>exact hK
 |str s=>exact hK
 |_=>exact h.elim
theorem Zdr{v:MV}(h:Jf v):Ret 2 497 [.f r.m,.f v] (.f (.bool (Jh v==(r.op==.jumpif)))) [none,none]:=.of ZWj _ rfl λN E K hK=>(ZCn h).h (by
 conv=>whnf
 exact Za (Zhu r.op .jumpif) hK)
end
end
section
theorem Zsj{vs:List MV}{t:Nat}{x:MV}(h:vs[t]?=some x):getItem (.l vs) (nat t)=some x:=by
 show(if 0<=(t:Int)then if(t:Int).toNat < vs.length then some (t:Int).toNat else none else _:Option Nat).bind (vs[·]?)=_
 rw[if_pos (Int.natCast_nonneg t),if_pos (show(t:Int).toNat < vs.length from(List.getElem?_eq_some_iff.mp h).1)]
 exact h
theorem Znl{vs:List MV}{t:Nat}{x:MV}(h:vs[t]?=some x):getItem (.f (.lst vs)) (nat t)=some x:=Zsj h
theorem Zow{α β:Type}{l:List α}{k:Nat}(h:k < l.length)(g:α->Option β):(l.take (k+1)).filterMap g=(l.take k).filterMap g++(g l[k]).toList:=by
 rw[List.take_succ_eq_append_getElem h,List.filterMap_append,List.filterMap_cons]
 cases g l[k] <;> rfl
theorem Zsx{α β:Type}{l:List α}{k:Nat}{g:α->Option β}{b:β}(f:β->MV)(h:k < l.length)(e:g l[k]=some b):((l.take k).filterMap g).map f++[f b]=((l.take (k+1)).filterMap g).map f:=by
 rw[Zow h,e,List.map_append];rfl
theorem Zsy{α β:Type}{l:List α}{k:Nat}{g:α->Option β}(h:k < l.length)(e:g l[k]=none):(l.take (k+1)).filterMap g=(l.take k).filterMap g:=by
 rw[Zow h,e];exact List.append_nil _
theorem ZMo{α β:Type}{l:List α}{k:Nat}{g:α->Option β}(f:β->MV)(h:k < l.length)(hl:l.length<=Zb):(((l.take k).filterMap g).map f).length < Zb:=by
 rw[List.length_map]
 exact Nat.lt_of_le_of_lt (List.length_filterMap_le _ _) (Nat.lt_of_le_of_lt (List.length_take_le _ _) (Nat.lt_of_lt_of_le h hl))
noncomputable def nl(n:Nat)(f:Nat->Nat):List MV:=(List.range n).map λi=>nat (f i)
theorem ZKs{n:Nat}{f:Nat->Nat}{t:Nat}(h:t < n):(nl n f)[t]?=some (nat (f t)):=by unfold nl;rw[List.getElem?_map,List.getElem?_range h];rfl
theorem Zqu{n:Nat}{f:Nat->Nat}:nl n f++[nat (f n)]=nl (n+1) f:=by unfold nl;rw[List.range_succ,List.map_append];rfl
theorem ZAb{n:Nat}{f:Nat->Nat}:(nl n f).length=n:=by unfold nl;rw[List.length_map,List.length_range]
variable{c:Cd}{rows:Rows}{k:Nat}
structure POk(c:Cd)(rows:Rows):Prop where
 len:rows.length<=60
 jmp:∀r,some r∈rows->r.op.isJ=true->r.a=nat r.t/\r.t<=rows.length
 cat:∀k∈c.catches,k.first<=rows.length/\k.last<=rows.length/\k.target<=rows.length
 cln:c.catches.length<=10
 sta:∀s∈c.starts,s<=rows.length
theorem POk.lg(ok:POk c rows):rows.length<=Zb:=Nat.le_trans ok.len (by decide)
theorem POk.pl(ok:POk c rows){t:Nat}(h:t<=rows.length):getItem (.f (.lst (nl (rows.length+1) (plc rows)))) (nat t)=some (nat (plc rows t)):=Znl (ZKs (Nat.lt_succ_of_le h))
noncomputable abbrev prA(c:Cd)(rows:Rows)(k:Nat):Sg:=[some (.f c.m),some (.f (.lst (rows.map orw))),some (.l (nl k (plc rows))),some (.l (((rows.take k).filterMap id).map Rw.m)),none,none,none,none,none]
noncomputable abbrev prB(c:Cd)(rows:Rows)(k:Nat):Sg:=[some (.f c.m),some (.f (.lst (rows.map orw))),some (.f (.lst (nl (rows.length+1) (plc rows)))),some (.l ((c.pressed rows).rows.map Rw.m)),none,some (.l (((c.catches.take k).filterMap (·.re (plc rows))).map Ct.m)),none,none,none]
theorem ZKt:nl rows.length (plc rows)++[.int ((rows.filterMap id).map Rw.m).length]=nl (rows.length+1) (plc rows):=by
 rw[<- Zqu];unfold plc nat;rw[List.take_length,List.length_map]
theorem ZDt(hk:k < rows.length):nl k (plc rows)++[.int (((rows.take k).filterMap id).map Rw.m).length]=nl (k+1) (plc rows):=by
 rw[<- Zqu];unfold plc nat;rw[List.length_map]
theorem ZXl{r:Rw}{f:Nat->Nat}(h:r.op.isJ=false):r.re f=r:=if_neg (by rw[h];decide)
theorem ZXk{r:Rw}{f:Nat->Nat}(h:r.op.isJ=true):r.re f=r.to (f r.t):=if_pos h
theorem ZQi:(rows.filterMap id).map (λr=>(r.re (plc rows)).m)=(c.pressed rows).rows.map Rw.m:=by unfold Cd.pressed;rw[List.map_map];rfl
theorem ZQh:c.starts.map (λs=>nat (plc rows s))=(c.pressed rows).starts.map nat:=by unfold Cd.pressed;rw[List.map_map];rfl
theorem Qs(ok:POk c rows):Ret 3 450 [.f c.m,.f (.lst (rows.map orw))] ((c.pressed rows).o false) [none,none]:=.of ZWm _ rfl λN E K hK=>by
 refine ForP.st rows orw (prA c rows) rfl (λk hk R Q hQ=>?_) ?_
 .have l1:(nl k (plc rows)).length < Zb:=by rw[ZAb];exact Nat.lt_of_lt_of_le hk ok.lg
  refine Zv (decide_eq_true l1) ?_
  rw[ZDt hk]
  cases hr:rows[k]with
  |none=>
   rw[prA,Zsy hk hr]at hQ
   exact hQ
  |some r=>
   refine Zv (decide_eq_true (ZMo Rw.m hk ok.lg)) ?_
   rw[prA,<- Zsx Rw.m hk hr]at hQ
   exact hQ
 .have l1:(nl rows.length (plc rows)).length < Zb:=by rw[ZAb];exact Nat.lt_of_le_of_lt ok.len (by decide)
  refine Zv (decide_eq_true l1) ?_
  rw[List.take_length,ZKt]
  refine CompP.mp (rows.filterMap id) Rw.m (λr=>(r.re (plc rows)).m) (by rw[List.take_length]) (λr hr R hR=>?_) ?_
  .conv=>whnf
   refine Za (ZFb _) (Zq (λh=>?_) λh=>ZXl h▸hR)
   obtain⟨x,hx,e⟩:=List.mem_filterMap.mp hr
   obtain⟨h1,h2⟩:=ok.jmp r (e▸hx) h
   refine Za (h1▸ok.pl h2) (Zgx.h ?_)
   rw[ZXk h]at hR
   exact hR
  .rw[ZQi (c:=c)]
   refine ForP.st c.catches Ct.m (prB c rows) rfl (λk hk R Q hQ=>?_) ?_
   .obtain⟨h1,h2,h3⟩:=ok.cat _ (List.getElem_mem hk)
    conv=>whnf
    refine Za (ok.pl h1) (Za (ok.pl h2) (Zq (λh=>?_) λh=>?_))
    .conv=>whnf
     refine Za (ok.pl h3) (Zix.h ?_)
     refine Zv (decide_eq_true (ZMo Ct.m hk (Nat.le_trans ok.cln (by decide)))) ?_
     rw[prB,<- Zsx Ct.m hk (if_pos (of_decide_eq_true (ZOz▸h)))]at hQ
     exact hQ
    .rw[prB,Zsy hk (if_neg (of_decide_eq_false (ZOz▸h)))]at hQ
     exact hQ
   .conv=>whnf
    rw[List.take_length]
    refine CompP.mp c.starts nat (λs=>nat (plc rows s)) rfl (λs hs R hR=>?_) ?_
    .conv=>whnf
     exact Za (ok.pl (ok.sta s hs)) hR
    rw[ZQh]
    exact(Zbp (c:=c) (d:=c.pressed rows)).h hK
end
section
theorem Jc{n:Nat}(h:n<=Zb):Xj "range" [.int (n:Int)]=some ((List.range n).map nat):=by
 refine(if_pos ⟨Int.le_trans (Int.neg_nonpos_of_nonneg (Int.natCast_nonneg _)) (Int.natCast_nonneg n),Int.ofNat_le.mpr h⟩:Zpp n=_).trans ?_
 unfold Jj
 rw[Int.sub_zero,Int.toNat_natCast]
 exact congrArg some (List.map_congr_left λi _=>by rw[Int.zero_add];rfl)
theorem Zal{α:Type}{l:List α}{f:α->MV}{q:Nat}(h:q < l.length):getItem (.f (.lst (l.map f))) (nat q)=some (f l[q]):=Znl (by rw[List.getElem?_map,List.getElem?_eq_getElem h];rfl)
variable{c:Cd}{p k q:Nat}
theorem Ztf(h:p < c.rows.length):c.eoj (k+1) p=if c.rows[p].op==.jump then c.eoj k c.rows[p].t else some p:=by
 rw[Cd.eoj,List.getElem?_eq_getElem h]
theorem ZMs(ok:Ok c){k:Nat}:∀{p q:Nat},p < c.rows.length->c.eoj k p=some q->q < c.rows.length/\∀r,c.rows[q]?=some r->(r.op==.jump)=false:=by
 induction k with
 |zero=>exactλ_ h=>ns h
 |succ k ih=>
  intro p q hp h
  rw[Ztf hp]at h
  by_cases hj:(c.rows[p].op==.jump)=true
  .rw[if_pos hj]at h
   exact ih (ok.jmp _ (List.getElem_mem hp) (by rw[eq_of_beq hj];rfl)).2 h
  .rw[if_neg hj]at h
   cases h
   exact⟨hp,λr e=>Option.some.inj ((List.getElem?_eq_getElem hp).symm.trans e)▸Bool.eq_false_iff.mpr hj⟩
theorem Zhs(ok:Ok c)(hp:p < c.rows.length):c.fin p < c.rows.length:=by
 unfold Cd.fin
 cases h:c.eoj c.rows.length p with
 |none=>exact hp
 |some q=>exact(ZMs ok hp h).1
noncomputable abbrev ZUe(c:Cd)(p:Nat)(v:MV):Sg:=[some (.f c.m),some (.f (nat p)),some (.f v),none]
theorem ZSb(h:c.eoj c.rows.length p=some q):c.fin p=q:=by unfold Cd.fin;rw[h];rfl
theorem ZSc(h:c.eoj c.rows.length p=none):c.fin p=p:=by unfold Cd.fin;rw[h];rfl
theorem ZQa(ok:Ok c)(hp:p < c.rows.length):Ret 1 457 [.f c.m,.f (nat p)] (.f (nat (c.fin p))) [none,none]:=.of ZWl _ rfl λN E K hK=>by
 conv=>whnf
 refine Za (by rw[List.length_map];exact Jc (Nat.le_of_lt ok.lt)) (ForP.ex (List.range c.rows.length) nat (λk q=>q < c.rows.length/\∃j,j+k=c.rows.length/\c.eoj c.rows.length p=c.eoj j q) (λq=>ZUe c p (nat q)) p rfl ⟨hp,_,rfl,rfl⟩ (λk hk q ⟨hq,j,hj,e⟩ R H=>?_) λq ⟨hq,j,hj,e⟩=>?_)
 .rw[List.length_range]at hk
  cases j with
  |zero=>exact absurd hk (by rw[<- hj,Nat.zero_add];exact Nat.lt_irrefl _)
  |succ j=>
   rw[Ztf hq]at e
   conv=>whnf
   refine Za (Zal hq) (Za (ZQr c.rows[q].op .jump) ?_)
   cases hb:c.rows[q].op==.jump
   .rw[hb,if_neg Bool.false_ne_true]at e
    conv=>whnf
    exact ZSb e▸hK
   .rw[if_pos hb]at e
    conv=>whnf
    obtain⟨h1,h2⟩:=ok.jmp _ (List.getElem_mem hq) (by rw[eq_of_beq hb];rfl)
    refine Za (Zal hq) ?_
    have z:=H c.rows[q].t ⟨h2,j,(Nat.add_right_comm j 1 k).symm.trans hj,e⟩
    rw[ZUe,<- h1]at z
    exact z
 .rw[List.length_range]at hj
  obtain rfl:=Nat.add_eq_right.mp hj
  exact ZSc e▸hK
end
section
theorem Zkj{α β:Type}{l:List α}{k:Nat}{f:α->β}(h:k < l.length):(l.take k).map f++[f l[k]]=(l.take (k+1)).map f:=by
 rw[List.take_succ_eq_append_getElem h,List.map_append];rfl
theorem Zve{α β:Type}{l:List α}{k:Nat}{f:α->β}(h:k < l.length)(hl:l.length<=Zb):((l.take k).map f).length < Zb:=by
 rw[List.length_map]
 exact Nat.lt_of_le_of_lt (List.length_take_le _ _) (Nat.lt_of_lt_of_le h hl)
theorem ZQq(o:Op):Ym .NotIn o.m (.f (.tup (opJ.map Op.m)))=some (!o.isJ):=congrArg (Option.map (!·)) (ZFb o)
variable{c:Cd}{r:Rw}{k:Nat}
theorem ZVb{t:Nat}:(r.to t).t=t:=rfl
theorem POk.of{rows:Rows}(ok:Ok c)(hl:rows.length=c.rows.length)(hj:∀r,some r∈rows->r.op.isJ=true->r.a=nat r.t/\r.t<=c.rows.length):POk c rows:=
 ⟨hl▸ok.len,hl.symm▸hj,λk hk=>hl.symm▸⟨Nat.le_trans (Nat.le_of_lt (ok.cat k hk).1) (ok.cat k hk).2.1,(ok.cat k hk).2.1,Nat.le_of_lt (ok.cat k hk).2.2⟩,ok.cln,λs hs=>hl.symm▸Nat.le_of_lt (ok.sta s hs)⟩
theorem ZIl(h:r.op.isJ=false):c.thr r=r:=if_neg (by rw[h];exact Bool.false_ne_true)
theorem ZIm(h:r.op.isJ=true):c.thr r=if r.op==.jump&&c.opAt (c.fin r.t)==some .leave then⟨.leave,.none,.none,r.line⟩else r.to (c.fin r.t):=if_pos h
theorem Zqh(ok:Ok c):POk c (c.rows.map λr=>some (c.thr r)):=POk.of ok (List.length_map _) λr hr hj=>by
 obtain⟨x,h0,e⟩:=List.mem_map.mp hr
 cases e
 cases h:x.op.isJ with
 |false=>rw[ZIl h,h]at hj;cases hj
 |true=>
  rw[ZIm h]at hj⊢
  split at hj
  .cases hj
  .rename_i hs
   rw[if_neg hs]
   exact⟨rfl,Nat.le_of_lt (Zhs ok (ok.jmp x h0 h).2)⟩
theorem ZQl{q:Nat}(h:q < c.rows.length):c.opAt q=some c.rows[q].op:=congrArg (Option.map _) (List.getElem?_eq_getElem h)
theorem ZPp{a b:Op}:(some a==some b)=(a==b):=rfl
noncomputable abbrev thS(c:Cd)(k:Nat):Sg:=[some (.f c.m),some (.l ((c.rows.take k).map λr=>(c.thr r).m)),none,none]
theorem Zvg(hk:k < c.rows.length){x:Rw}(h:c.thr c.rows[k]=x):thS c (k+1)=[some (.f c.m),some (.l (((c.rows.take k).map λr=>(c.thr r).m)++[x.m])),none,none]:=by
 rw[thS,<- Zkj hk,h]
theorem Zmz(ok:Ok c):Ret 4 464 [.f c.m] (c.threaded.o false) [none]:=.of ZTn _ rfl λN E K hK=>by
 refine ForP.st c.rows Rw.m (thS c) rfl (λk hk R Q hQ=>?_) ?_
 .have hl:=Zve (f:=λr=>(c.thr r).m) hk (Nat.le_of_lt ok.lt)
  conv=>whnf
  refine Za (ZQq _) ?_
  cases hj:c.rows[k].op.isJ
  .rw[Zvg hk (ZIl hj)]at hQ
   exact Zv (decide_eq_true hl) hQ
  .obtain⟨h1,h2⟩:=ok.jmp _ (List.getElem_mem hk) hj
   conv=>whnf
   rw[h1]
   refine(ZQa ok h2).h (Za (Zhu c.rows[k].op .jump) ?_)
   have h3:=Zhs ok h2
   have hT:=ZIm (c:=c) hj
   cases hb:c.rows[k].op==.jump
   .rw[hb]at hT
    rw[Zvg hk hT]at hQ
    conv=>whnf
    exact Zgx.h (Zv rfl (Zv (decide_eq_true hl) hQ))
   .conv=>whnf
    refine Za (Zal h3) (Za (Zhu c.rows[c.fin c.rows[k].t].op .leave) ?_)
    rw[hb,ZQl h3,ZPp]at hT
    cases hv:c.rows[c.fin c.rows[k].t].op==.leave
    .rw[hv]at hT
     rw[Zvg hk hT]at hQ
     conv=>whnf
     exact Zgx.h (Zv rfl (Zv (decide_eq_true hl) hQ))
    .rw[hv]at hT
     rw[Zvg hk hT]at hQ
     conv=>whnf
     exact(Qw (o:=.leave)).h (Zv (decide_eq_true hl) hQ)
 .conv=>whnf
  rw[List.take_length,show(c.rows.map λr=>(c.thr r).m)=(c.rows.map λr=>some (c.thr r)).map orw by rw[List.map_map];rfl]
  exact(Qs (Zqh ok)).h hK
end
section
variable{c:Cd}{p k q:Nat}{f:Nat->Bool}{ws:List Nat}
noncomputable def Cd.hit(c:Cd)(p:Nat):List Nat:=(c.catches.filter (·.cov p)).map (·.target)
noncomputable def Rw.nx(r:Rw)(p:Nat):List Nat:=(if r.op.isJ then[r.t]else[])++if r.op.isEnd then[]else[p+1]
theorem Zgm(h:p < c.rows.length):c.succ p=c.rows[p].nx p++c.hit p:=by
 rw[Cd.succ,List.getElem?_eq_getElem h];rfl
theorem ZAa{r:Rw}:(r.nx p).length<=2:=by
 unfold Rw.nx
 cases r.op.isJ <;> cases r.op.isEnd <;> exact Nat.le_of_ble_eq_true rfl
theorem Zjk(ok:Ok c):(c.hit p).length<=10:=by
 unfold Cd.hit
 rw[List.length_map]
 exact Nat.le_trans (List.length_filter_le _ _) ok.cln
theorem Zbj(ok:Ok c)(h:q∈c.succ p):q < c.rows.length:=by
 by_cases hp:p < c.rows.length
 .rw[Zgm hp]at h
  rcases List.mem_append.mp h with h|h
  .unfold Rw.nx at h
   rcases List.mem_append.mp h with h|h
   .cases hj:c.rows[p].op.isJ
    .rw[hj]at h;cases h
    .rw[hj]at h
     rw[List.mem_singleton.mp h]
     exact(ok.jmp _ (List.getElem_mem hp) hj).2
   .cases hj:c.rows[p].op.isEnd
    .rw[hj]at h
     rw[List.mem_singleton.mp h]
     exact ok.nxt p _ (List.getElem?_eq_getElem hp) hj
    .rw[hj]at h;cases h
  .obtain⟨k,hk,rfl⟩:=List.mem_map.mp h
   exact(ok.cat k (List.mem_filter.mp hk).1).2.2
 .rw[Cd.succ,List.getElem?_eq_none (Nat.le_of_not_lt hp)]at h
  cases h
noncomputable def Qk:Nat->(Nat->Bool)->Nat
 |0,_=>0
 |n+1,f=>Qk n f+(if f n then 0 else 1)
theorem Zci{n:Nat}:Qk n f<=n:=by
 induction n with
 |zero=>exact Nat.le_refl 0
 |succ n ih=>exact Nat.add_le_add ih (by cases f n <;> decide)
theorem Znb{i p:Nat}:(f i||i==p)=true↔f i=true\/i=p:=by rw[Bool.or_eq_true,beq_iff_eq]
theorem ZDj{i p:Nat}(h:i≠p):(f i||i==p)=f i:=by rw[beq_eq_false_iff_ne.mpr h,Bool.or_false]
theorem ZEm{n:Nat}(h:n<=p):Qk n (λi=>f i||i==p)=Qk n f:=by
 induction n with
 |zero=>rfl
 |succ n ih=>rw[Qk,Qk,ih (Nat.le_of_succ_le h),ZDj (Nat.ne_of_lt h)]
theorem Ua{n:Nat}(hf:f p=false)(hp:p < n):Qk n (λi=>f i||i==p)+1=Qk n f:=by
 induction n with
 |zero=>exact absurd hp (Nat.not_lt_zero p)
 |succ n ih=>
  rw[Qk,Qk]
  rcases Nat.lt_or_eq_of_le (Nat.le_of_lt_succ hp)with h|rfl
  .rw[ZDj (Nat.ne_of_gt h),Nat.add_right_comm,ih h]
  .rw[ZEm (Nat.le_refl _),hf,beq_self_eq_true];rfl
structure Walk(c:Cd)(f:Nat->Bool)(ws:List Nat):Prop where
 wr:∀w∈ws,w < c.rows.length/\Reach c w
 fr:∀i,i < c.rows.length->f i=true->Reach c i/\∀q∈c.succ i,f q=true\/q∈ws
 st:∀s∈c.starts,f s=true\/s∈ws
theorem Zcd{x:Nat}(h:x∈ws++[p]):x∈ws\/x=p:=(List.mem_append.mp h).imp id List.mem_singleton.mp
theorem Walk.skip(h:Walk c f (ws++[p]))(hf:f p=true):Walk c f ws:=
 have mv:∀q,f q=true\/q∈ws++[p]->f q=true\/q∈ws:=λq z=>z.elim .inl λz=>(Zcd z).elim .inr λe=>.inl (e▸hf)
 ⟨λw hw=>h.wr w (List.mem_append_left _ hw),λi hi e=>⟨(h.fr i hi e).1,λq hq=>mv q ((h.fr i hi e).2 q hq)⟩,λs hs=>mv s (h.st s hs)⟩
theorem Walk.go(ok:Ok c)(h:Walk c f (ws++[p])):Walk c (λi=>f i||i==p) (ws++c.succ p):=by
 have hp:=(h.wr p (List.mem_append_right _ (List.mem_singleton.mpr rfl))).2
 have mv:∀q,f q=true\/q∈ws++[p]->(f q||q==p)=true\/q∈ws++c.succ p:=λq z=>z.elim (λz=>.inl (Znb.mpr (.inl z))) λz=>(Zcd z).elim (λz=>.inr (List.mem_append_left _ z)) λe=>.inl (Znb.mpr (.inr e))
 refine⟨λw hw=>(List.mem_append.mp hw).elim (λz=>h.wr w (List.mem_append_left _ z)) λz=>⟨Zbj ok z,.step hp z⟩,λi hi e=>?_,λs hs=>mv s (h.st s hs)⟩
 by_cases hip:i=p
 .subst hip;exact⟨hp,λq hq=>.inr (List.mem_append_right _ hq)⟩
 .have e:=(Znb.mp e).resolve_right hip
  exact⟨(h.fr i hi e).1,λq hq=>mv q ((h.fr i hi e).2 q hq)⟩
theorem Walk.done(ok:Ok c)(h:Walk c f []){i:Nat}(hi:i < c.rows.length):f i=c.live i:=by
 have key:∀{i},Reach c i->i < c.rows.length/\f i=true:=λ{i} r=>by
  induction r with
  |start hs=>exact⟨ok.sta _ hs,(h.st _ hs).resolve_right nofun⟩
  |step r hq ih=>exact⟨Zbj ok hq,((h.fr _ ih.1 ih.2).2 _ hq).resolve_right nofun⟩
 unfold Cd.live
 cases hf:f i with
 |true=>exact(@decide_eq_true _ (_) (h.fr i hi hf).1).symm
 |false=>exact(@decide_eq_false _ (_) λr=>by rw[(key r).2]at hf;cases hf).symm
theorem Walk.init(ok:Ok c):Walk c (λ_=>false) c.starts:=⟨λw hw=>⟨ok.sta w hw,.start hw⟩,λi _ e=>(nomatch e),λs hs=>.inr hs⟩
theorem Ztt{n t:Nat}(h:t < n):getItem (.l (bl n f)) (nat t)=some (.bool (f t)):=Zsj (Ztu h)
noncomputable def opE:List String:=["jump","leave","out","again","nomatch","fail"]
theorem Zwk(o:Op):Ym .NotIn o.m (.f (.tup (opE.map λs=>.str (Str.ofString s))))=some (!o.isEnd):=
 congrArg (Option.map (!·)) ((Zcl o.n opE).trans (congrArg some (by cases o <;> rfl)))
theorem Zkl{α:Type}{l:List α}{k:Nat}(h:k < l.length)(p:α->Bool):(l.take (k+1)).filter p=(l.take k).filter p++if p l[k]then[l[k]]else[]:=by
 rw[List.take_succ_eq_append_getElem h,List.filter_append,List.filter_cons];rfl
noncomputable abbrev Zjj(c:Cd)(p j:Nat):List Nat:=((c.catches.take j).filter (·.cov p)).map (·.target)
noncomputable abbrev ZPd(c:Cd)(F X:OV)(ws:List Nat)(p:Nat):Sg:=[some (.f c.m),some F,some (.l (ws.map nat)),some (.f (nat p)),some X,none]
theorem Yv{α β:Type}{l:List α}{g:α->β}{x:α}:l.map g++[g x]=(l++[x]).map g:=by rw[List.map_append];rfl
theorem ZAq{j:Nat}(h:j < c.catches.length)(e:c.catches[j].cov p=true):Zjj c p (j+1)=Zjj c p j++[c.catches[j].target]:=by
 rw[Zjj,Zkl h,if_pos e,List.map_append];rfl
theorem ZAr{j:Nat}(h:j < c.catches.length)(e:c.catches[j].cov p=false):Zjj c p (j+1)=Zjj c p j:=by
 rw[Zjj,Zkl h,if_neg (by rw[e];exact Bool.false_ne_true),List.append_nil]
theorem Zse(ok:Ok c){j:Nat}:(Zjj c p j).length<=10:=by
 rw[Zjj,List.length_map]
 exact Nat.le_trans (List.length_filter_le _ _) (Nat.le_trans (List.length_take_le' _ _) ok.cln)
theorem Zbd{N:Nat}{E:Prop}{F X:OV}{Q:Fl->Sg->Prop}(ok:Ok c)(hw:ws.length<=900)(H:Q .next (ZPd c F X (ws++c.hit p) p)):
  (mg (N+2) (.each (.n 5) (.ite (vf 0 "catches")) (cl [.ifs (.meth 5 "covers" 115 112 (cl [v 3])) (cl [.ex (.app (.v 2) (vf 5 "target"))]) .nil]))).s E (ZPd c F X ws p) Q:=by
 refine ForP.st c.catches Ct.m (λj=>ZPd c F X (ws++Zjj c p j) p) (by rw[show ws++Zjj c p 0=ws from List.append_nil ws]) (λj hj R Q hQ=>?_) (by rw[Zjj,List.take_length];exact H)
 refine Zkq.h (Zv rfl ?_)
 cases h:c.catches[j].cov p
 .rw[ZAr hj h]at hQ
  exact hQ
 .rw[ZAq hj h,<- List.append_assoc,ZPd,<- Yv]at hQ
  refine Zv (decide_eq_true ?_) hQ
  rw[List.length_map,List.length_append]
  exact Nat.lt_of_le_of_lt (Nat.add_le_add hw (Zse ok)) (by decide)
end
section
variable{c:Cd}{p k q:Nat}{f:Nat->Bool}{ws:List Nat}
noncomputable abbrev reS(c:Cd)(f:Nat->Bool)(ws:List Nat):Sg:=[some (.f c.m),some (.l (bl c.rows.length f)),some (.l (ws.map nat)),none,none,none]
theorem ZNl{n t:Nat}(h:t < n):Zgz (.l (bl n f)) (nat t) (.bool true)=some (.l (bl n λi=>f i||i==t)):=Zkv h
theorem wl{a b d L L' k:Nat}(hk:a+13*L<=k)(hl:L'+1=L)(hn:b<=2)(hh:d<=10):a+(b+d)+13*L'<=k:=by
 subst hl
 refine Nat.le_trans ?_ hk
 rw[Nat.add_assoc,Nat.mul_succ,Nat.add_comm _ 13]
 exact Nat.add_le_add_left (Nat.add_le_add_right (Nat.le_trans (Nat.add_le_add hn hh) (by decide)) _) _
theorem Zpv(ok:Ok c):Ret 3 471 [.f c.m] (.f (.lst (bl c.rows.length c.live))) [none]:=.of ZWk _ rfl λN E K hK=>by
 conv=>whnf
 refine Za (Zwl c.rows.length (by rw[List.length_map]) (Nat.le_of_lt ok.lt)) ?_
 rw[ZBb]
 refine WhileP.ex (λk σ=>∃f ws,Walk c f ws/\ws.length+13*Qk c.rows.length f<=k/\k<=800/\σ=reS c f ws) id _ 800 (by decide) rfl ⟨_,c.starts,.init ok,Nat.le_trans (Nat.add_le_add ok.sln (Nat.mul_le_mul_left 13 (Nat.le_trans Zci ok.len))) (by decide),Nat.le_refl _,rfl⟩ λk σ z R H=>?_
 obtain⟨f,ws,hw,hk,hk8,e⟩:=z
 subst e
 rcases List.eq_nil_or_concat ws with rfl|⟨ws,p,rfl⟩
 .rw[<- ZNn λi hi=>hw.done ok hi]at hK
  exact hK
 .rw[List.concat_eq_append]at hw hk⊢
  rw[List.length_append,Nat.add_right_comm]at hk
  have hp:=(hw.wr p (List.mem_append_right _ (List.mem_singleton.mpr rfl))).1
  refine Zv (decide_eq_true (Int.ofNat_lt.mpr (show 0 < _ by rw[List.length_map,List.length_append];exact Nat.succ_pos _))) ?_
  cases k with
  |zero=>exact absurd hk (Nat.not_succ_le_zero _)
  |succ k=>
   refine⟨k,rfl,?_⟩
   have hk:=Nat.le_of_succ_le_succ hk
   have hk8:=Nat.le_of_succ_le hk8
   conv=>whnf
   rw[<- Yv]
   refine Za List.getLast?_concat ?_
   rw[List.dropLast_concat]
   conv=>whnf
   refine Za (Ztt hp) ?_
   cases hf:f p
   .have hl:=Ua hf hp
    have hn:=ZAa (r:=c.rows[p]) (p:=p)
    have hh:=Zjk ok (p:=p)
    have fin:∀{l:List Nat},l=ws++c.rows[p].nx p->R k (reS c (λi=>f i||i==p) (l++c.hit p)):=λ{l} e=>H k _ ⟨_,_,hw.go ok,by rw[Zgm hp,List.length_append,List.length_append];exact wl hk hl hn hh,hk8,by rw[e,Zgm hp,List.append_assoc]⟩
    have hwl:ws.length<=880:=Nat.le_trans (Nat.le_add_right _ _) (Nat.le_trans hk (Nat.le_trans hk8 (by decide)))
    have lt:∀{l:List Nat},l.length<=890->(l.map nat).length < Zb:=λ{l} h=>by rw[List.length_map];exact Nat.lt_of_le_of_lt h (by decide)
    have ad:∀{l:List Nat} {x n:Nat},l.length<=n->(l++[x]).length<=n+1:=λ{l x n} h=>by rw[List.length_append];exact Nat.succ_le_succ h
    unfold Rw.nx at fin
    conv=>whnf
    refine Za (ZNl hp) ?_
    conv=>whnf
    refine Za (Zal hp) (Za (ZFb _) ?_)
    cases hj:c.rows[p].op.isJ
    .rw[hj]at fin
     conv=>whnf
     refine Za (Zwk _) ?_
     cases he:c.rows[p].op.isEnd
     .rw[he]at fin
      refine Zv (decide_eq_true (lt (Nat.le_trans hwl (by decide)))) ?_
      rw[show MV.int (((p:Nat):Int)+1)=nat (p+1)from rfl,Yv]
      exact Zbd ok (Nat.le_trans (ad hwl) (by decide)) (fin rfl)
     .rw[he]at fin
      exact Zbd ok (Nat.le_trans hwl (by decide)) (fin (List.append_nil ws).symm)
    .rw[hj]at fin
     refine Zv (decide_eq_true (lt (Nat.le_trans hwl (by decide)))) ?_
     conv=>whnf
     rw[(ok.jmp _ (List.getElem_mem hp) hj).1,Yv]
     refine Za (Zwk _) ?_
     cases he:c.rows[p].op.isEnd
     .rw[he]at fin
      refine Zv (decide_eq_true (lt (Nat.le_trans (ad hwl) (by decide)))) ?_
      rw[show MV.int (((p:Nat):Int)+1)=nat (p+1)from rfl,Yv]
      exact Zbd ok (Nat.le_trans (ad (ad hwl)) (by decide)) (fin (List.append_assoc ..))
     .rw[he]at fin
      exact Zbd ok (Nat.le_trans (ad hwl) (by decide)) (fin rfl)
   .exact H k _ ⟨f,ws,hw.skip hf,hk,hk8,rfl⟩
end
section
theorem Zoj{f:Rw->MV}{g:Nat->Bool}:∀{l:List Rw} {s:Nat},Zze (l.map f) ((List.range' s l.length).map λi=>.bool (g i))=(l.zipIdx s).map λx=>.tup [f x.1,.bool (g x.2)]
 | [],s=>rfl
 |a::l,s=>congrArg (_::·) (Zoj (l:=l) (s:=s+1))
theorem Zay{α:Type}{f:α->MV}:∀{l:List α} {s:Nat},Xl (s:Int) (l.map f)=(l.zipIdx s).map λx=>.tup [nat x.2,f x.1]
 | [],s=>rfl
 |a::l,s=>congrArg (_::·) (Zay (l:=l) (s:=s+1))
theorem Zce{l:List Rw}{x:Rw×Nat}(h:x∈l.zipIdx):l[x.2]?=some x.1:=
 have:=List.mem_zipIdx' h
 (List.getElem?_eq_getElem this.1).trans (congrArg some this.2.symm)
variable{c:Cd}{p:Nat}
theorem Zqi(ok:Ok c){g:Rw×Nat->Option Rw}(h:∀x∈c.rows.zipIdx,∀r,g x=some r->r.op.isJ=true->r=x.1):POk c (c.rows.zipIdx.map g):=POk.of ok (by rw[List.length_map,List.length_zipIdx]) λr hr hj=>by
 obtain⟨x,hx,e⟩:=List.mem_map.mp hr
 obtain rfl:=h x hx r e hj
 have:=ok.jmp _ (List.mem_of_getElem? (Zce hx)) hj
 exact⟨this.1,Nat.le_of_lt this.2⟩
theorem ZUa{b:Bool}{r q:Rw}(e:(if b=true then some q else none)=some r):r=q:=by
 cases b
 .cases e
 .exact(Option.some.inj e).symm
theorem ZJy(ok:Ok c):Ret 4 476 [.f c.m] (c.undead.o false) [none]:=.of ZTm _ rfl λN E K hK=>by
 refine(Zpv ok).h (CompP.mp c.rows.zipIdx (λx=>.tup [x.1.m,.bool (c.live x.2)]) (λx=>orw (if c.live x.2 then some x.1 else none)) (by unfold bl;rw[List.range_eq_range'];exact Zoj) (λx hx R hR=>?_) ?_)
 .conv=>whnf
  cases h:c.live x.2 <;> (rw[h]at hR;exact hR)
 .rw[show(c.rows.zipIdx.map λx=>orw (if c.live x.2 then some x.1 else none))=(c.rows.zipIdx.map λx=>if c.live x.2 then some x.1 else none).map orw by rw[List.map_map];rfl]
  exact(Qs (Zqi ok λx hx r e hj=>ZUa e)).h hK
theorem ZRr(o:Op):Ym .In o.m (.f (.tup (Xe.map Op.m)))=some (Xe.contains o):=Zlr o Xe
theorem Zef{a b:Nat}:Ym .Eq (nat a) (.f (nat b))=some (a==b):=congrArg some (show PyData.eqv (.int a) (.int b)=(a==b)by unfold PyData.eqv;rw[Bool.eq_iff_iff,beq_iff_eq,beq_iff_eq];exact Int.ofNat_inj)
theorem Zgq{x:Rw×Nat}{r:Rw}(e:Zg x.2 x.1=some r)(hj:r.op.isJ=true):r=x.1:=by
 unfold Zg at e
 split at e
 .split at e
  .cases e;cases hj
  .cases e
 .exact(Option.some.inj e).symm
noncomputable def shM(x:Rw×Nat):MV:=orw (Zg x.2 x.1)
noncomputable abbrev shS(c:Cd)(k:Nat):Sg:=[some (.f c.m),some (.l ((c.rows.zipIdx.take k).map shM)),none,none]
theorem ZPs{k:Nat}(hk:k < c.rows.zipIdx.length){v:MV}(h:shM c.rows.zipIdx[k]=v):shS c (k+1)=[some (.f c.m),some (.l ((c.rows.zipIdx.take k).map shM++[v])),none,none]:=by
 rw[shS,<- Zkj hk,h]
theorem ZPt{r:Rw}:shM (r,p)=orw (match r.op.isJ with|true=>(match r.t==p+1 with|true=>(match Xe.contains r.op with|true=>some ⟨.pop,.none,.none,r.line⟩|false=>none)|false=>some r)|false=>some r):=by
 unfold shM Zg
 cases r.op.isJ <;> cases r.t==p+1 <;> cases Xe.contains r.op <;> rfl
theorem ZCr(ok:Ok c):Ret 4 518 [.f c.m] (c.short.o false) [none]:=.of ZTh _ rfl λN E K hK=>by
 refine ForP.st c.rows.zipIdx (λx=>.tup [nat x.2,x.1.m]) (shS c) (congrArg (·,_) Zay) (λk hk R Q hQ=>?_) ?_
 .have hl:=Zve (f:=shM) hk (by rw[List.length_zipIdx];exact Nat.le_of_lt ok.lt)
  have hm:=Zce (List.getElem_mem hk)
  have e:=ZPs hk rfl
  revert hm e
  generalize c.rows.zipIdx[k]=x
  obtain⟨r,i⟩:=x
  intro hm e
  rw[e,ZPt]at hQ
  conv=>whnf
  refine Za (ZFb _) ?_
  cases hj:r.op.isJ
  .rw[hj]at hQ
   exact Zv (decide_eq_true hl) hQ
  .rw[hj]at hQ
   conv=>whnf
   rw[(ok.jmp _ (List.mem_of_getElem? hm) hj).1]
   refine Za (K:=λb=>ZRo _ _ E _ (.f (.bool b)) _) (Zef (b:=i+1)) ?_
   cases hb:r.t==i+1
   .rw[hb]at hQ
    conv=>whnf
    exact Zv (decide_eq_true hl) hQ
   .rw[hb]at hQ
    conv=>whnf
    refine Za (ZRr _) ?_
    cases hc:Xe.contains r.op
    .rw[hc]at hQ
     exact Zv (decide_eq_true hl) hQ
    .rw[hc]at hQ
     exact(Qw (o:=.pop)).h (Zv (decide_eq_true hl) hQ)
 .conv=>whnf
  rw[List.take_length,show c.rows.zipIdx.map shM=(c.rows.zipIdx.map λx=>Zg x.2 x.1).map orw by rw[List.map_map];rfl]
  exact(Qs (Zqi ok λx _ r e hj=>Zgq e hj)).h hK
end
section
noncomputable def good(n:Nat)(r:Rw):Prop:=r.pl/\(r.op.isJ=true->r.a=nat r.t/\r.t < n)
noncomputable def AllG(n:Nat)(R:Rows):Prop:=∀r,some r∈R->good n r
variable{c:Cd}{p n k:Nat}{R:Rows}
theorem AllG.set{o:Option Rw}(h:AllG n R)(ho:∀r,o=some r->good n r):AllG n (R.set p o):=λr hr=>(List.mem_or_eq_of_mem_set hr).elim (h r) λz=>ho r z.symm
theorem AllG.non(h:AllG n R):AllG n (R.set p none):=h.set λr e=>by cases e
theorem AllG.init(ok:Ok c):AllG c.rows.length c.all:=λr hr=>by
 obtain⟨x,hx,e⟩:=List.mem_map.mp hr
 cases e
 exact⟨ok.pln r hx,ok.jmp r hx⟩
theorem ZNs(h:p < R.length):R[p]?=some (at_ R p):=by
 unfold at_
 rw[List.getElem?_eq_getElem h];rfl
theorem Zcu{r:Rw}(h:at_ R p=some r):some r∈R:=by
 unfold at_ at h
 cases hp:R[p]? with
 |none=>rw[hp]at h;cases h
 |some o=>exact List.mem_of_getElem? (hp.trans (by rw[hp]at h;exact congrArg some h))
theorem Zam{t:Nat}(h:t < R.length):getItem (.l (R.map orw)) (nat t)=some (orw (at_ R t)):=Zsj (by rw[List.getElem?_map,ZNs h];rfl)
theorem Zdf{t:Nat}{o:Option Rw}(h:t < R.length):Zgz (.l (R.map orw)) (nat t) (orw o)=some (.l ((R.set t o).map orw)):=by
 rw[Zwb (by rw[List.length_map];exact h),List.map_set]
theorem Qx{t q:Nat}{o w:Option Rw}(h:t < R.length):Zgz (.l ((R.set q w).map orw)) (nat t) (orw o)=some (.l (((R.set q w).set t o).map orw)):=Zdf (by rw[List.length_set];exact h)
theorem ZDd(ok:Ok c)(hl:R.length=c.rows.length)(h:AllG c.rows.length R):POk c R:=POk.of ok hl λr hr hj=>⟨((h r hr).2 hj).1,Nat.le_of_lt ((h r hr).2 hj).2⟩
noncomputable def WOk(n:Nat)(g:Nat->Rows->Rows):Prop:=∀p R,R.length=n->AllG n R->(g p R).length=n/\AllG n (g p R)
theorem Zkg{g:Nat->Rows->Rows}(hg:WOk n g):∀k,R.length=n->AllG n R->(win g k R).length=n/\AllG n (win g k R)
 |0,h1,h2=>⟨h1,h2⟩
 |k+1,h1,h2=>hg k _ (Zkg hg k h1 h2).1 (Zkg hg k h1 h2).2
theorem ZLu{n j:Nat}(h:n<=Zb)(hj:j<=Zb):Xj "range" [.int ((n:Int) - (j:Int))]=some ((List.range (n - j)).map nat):=by
 refine(if_pos ⟨Int.le_trans (Int.neg_le_neg (Int.ofNat_le.mpr hj)) (Int.le_add_of_nonneg_left (Int.ofNat_nonneg n)),Int.le_trans (Int.sub_le_self _ (Int.ofNat_nonneg j)) (Int.ofNat_le.mpr h)⟩:Zpp _=_).trans ?_
 unfold Jj
 rw[Int.sub_zero,Int.toNat_sub]
 exact congrArg some (List.map_congr_left λi _=>by rw[Int.zero_add];rfl)
theorem Zaa{n:Nat}{f:Nat->Bool}{t:Nat}(h:t < n):getItem (.f (.lst (bl n f))) (nat t)=some (.bool (f t)):=Ztt h
noncomputable abbrev ZIe(c:Cd)(R:Rows)(o:Option OV)(rest:Sg):Sg:=some (.f c.m)::some (.l (R.map orw))::some (.f (.lst (bl (c.rows.length+1) c.mark)))::o::rest
theorem Ziq:∀{σ:Sg} {K:Sg->Prop},K σ->stK σ K
 | [],_,h=>h
 |_::r,K,h=>Ziq (σ:=r) h
theorem Zpq(ok:Ok c){a m j:Nat}{B:List CE}{rest:Sg}{g:Nat->Rows->Rows}(hj:j<=10)(hg:WOk c.rows.length g)(T:Tree a m [TP2.f] [] (cl [.asX [2,1] (cl [.ty "list" (cl [vf 0 "rows"]),.fn 445 (cl [v 0])]),.each (.n 3) (.itc "range" (cl [.bin .Sub (.lenP (.v 1)) (ki j)])) (cl B),.ret (.fn 450 (cl [v 0,v 1]))]))
  (h0:Zah [.f c.m] m=some (.f c.m)::none::none::none::rest)
  (hb:∀N E k R Q K,k+j < c.rows.length->R.length=c.rows.length->AllG c.rows.length R->Q (ZIe c (g k R) none rest)->(mg (N+4) (cl B)).s E (ZIe c R (some (.f (nat k))) rest) (lpK (ZIe c c.all none rest) K Q)):Ret 5 a [.f c.m] ((c.pressed (win g (c.rows.length - j) c.all)).o false) [none]:=.of T _ (congrArg (Prod.mk true) h0) λN E K hK=>by
 have ha:c.all.map orw=c.rows.map Rw.m:=by unfold Cd.all;rw[List.map_map];rfl
 have hl:c.all.length=c.rows.length:=List.length_map _
 conv=>whnf
 refine(ZCu ok).h (Ziq ?_)
 conv=>whnf
 refine Ziq ?_
 conv=>whnf
 rw[<- ha]
 refine Za (by rw[List.length_map,hl];exact ZLu (Nat.le_of_lt ok.lt) (Nat.le_trans hj (by decide))) ?_
 refine ForP.st (List.range (c.rows.length - j)) nat (λk=>ZIe c (win g k c.all) none rest) rfl (λk hk Q R hR=>?_) ?_
 .rw[List.length_range]at hk
  rw[List.getElem_range]
  obtain⟨h1,h2⟩:=Zkg hg k hl (AllG.init ok)
  exact Ziq (hb N E k _ R _ (Nat.add_lt_of_lt_sub hk) h1 h2 hR)
 .obtain⟨h1,h2⟩:=Zkg hg (c.rows.length - j) hl (AllG.init ok)
  rw[List.length_range]
  conv=>whnf
  refine Ziq ?_
  refine(Qs (ZDd ok h1 h2)).h ?_
  exact Ziq hK
theorem ZHk{a b:Nat}{x y:Option Rw}(h:R.length=n):((R.set a x).set b y).length=n:=by rw[List.length_set,List.length_set,h]
theorem Zxc{mk:Nat->Bool}:WOk n (Je mk):=λp R h1 h2=>by
 unfold Je
 split
 .exact⟨ZHk h1,h2.non.non⟩
 .exact⟨h1,h2⟩
theorem Zvz(ok:Ok c):Ret 5 483 [.f c.m] (c.pushes.o false) [none]:=Zpq ok (j:=1) (by decide) Zxc ZTl rfl λN E k R Q K hk h1 h2 hQ=>by
 have l1:k+1 < R.length:=h1▸hk
 have l2:k+1 < c.rows.length+1:=Nat.lt_succ_of_lt hk
 unfold Je at hQ
 refine Za (Zam (Nat.lt_of_succ_lt l1)) ((Yk (l:=Zqn)).h (Zq (λe=>?_) λe=>?_)) <;> rw[e]at hQ
 .refine Za (Zam l1) ((Yk (l:=[.pop])).h (Zq (λe=>?_) λe=>?_)) <;> rw[e]at hQ
  .conv=>whnf
   refine Za (Zaa l2) ?_
   cases e:c.mark (k+1) <;> rw[e]at hQ
   .conv=>whnf
    refine Za (Zdf (o:=none) (Nat.lt_of_succ_lt l1)) ?_
    conv=>whnf
    exact Za (Qx (o:=none) l1) hQ
   .exact hQ
  .exact hQ
 .exact hQ
end
section
variable{c:Cd}{p n k:Nat}{R:Rows}
theorem Zxe{mk:Nat->Bool}:WOk n (Yr mk):=λp R h1 h2=>by
 unfold Yr
 split
 .exact⟨ZHk h1,h2.non.non⟩
 .exact⟨h1,h2⟩
theorem Zwa(ok:Ok c):Ret 5 490 [.f c.m] (c.copies.o false) [none]:=Zpq ok (j:=2) (by decide) Zxe ZTk rfl λN E k R Q K hk h1 h2 hQ=>by
 have l2:k+2 < R.length:=h1▸hk
 have l1:k+1 < R.length:=Nat.lt_of_succ_lt l2
 have l3:k+2 < c.rows.length+1:=Nat.lt_succ_of_lt hk
 unfold Yr at hQ
 refine Za (Zam (Nat.lt_of_succ_lt l1)) ((Yk (l:=[.dup])).h (Zq (λe=>?_) λe=>?_)) <;> rw[e]at hQ
 .refine Za (Zam l1) ((Yk (l:=ZHn)).h (Zq (λe=>?_) λe=>?_)) <;> rw[e]at hQ
  .refine Za (Zam l2) ((Yk (l:=[.pop])).h (Zq (λe=>?_) λe=>?_)) <;> rw[e]at hQ
   .conv=>whnf
    refine Za (Zaa (Nat.lt_of_succ_lt l3)) ?_
    cases e:c.mark (k+1) <;> rw[e]at hQ
    .conv=>whnf
     refine Za (Zaa l3) ?_
     cases e:c.mark (k+2) <;> rw[e]at hQ
     .conv=>whnf
      refine Za (Zdf (o:=none) (Nat.lt_of_succ_lt l1)) ?_
      conv=>whnf
      exact Za (Qx (o:=none) l2) hQ
     .exact hQ
    .exact hQ
   .exact hQ
  .exact hQ
 .exact hQ
theorem Zxb{mk:Nat->Bool}:WOk n (Jd mk):=λp R h1 h2=>by
 unfold Jd
 split
 .exact⟨h1,h2⟩
 .split
  .exact⟨ZHk h1,h2.non.non⟩
  .split
   .exact⟨by rw[List.length_set,h1],h2.non⟩
   .exact⟨h1,h2⟩
theorem ZCp(ok:Ok c):Ret 5 525 [.f c.m] (c.swaps.o false) [none]:=Zpq ok (j:=1) (by decide) Zxb ZTg rfl λN E k R Q K hk h1 h2 hQ=>by
 have l1:k+1 < R.length:=h1▸hk
 have l0:k < R.length:=Nat.lt_of_succ_lt l1
 have l2:k+1 < c.rows.length+1:=Nat.lt_succ_of_lt hk
 unfold Jd at hQ
 refine Za (Zam l1) ((Yk (l:=[.swap])).h ?_)
 cases e:Yu [.swap] (at_ R (k+1)) <;> rw[e]at hQ
 .exact hQ
 .conv=>whnf
  refine Za (Zaa l2) ?_
  cases e:c.mark (k+1) <;> rw[e]at hQ
  .conv=>whnf
   refine Za (Zam l0) ((Yk (l:=[.swap])).h (Zq (λe=>?_) λe=>?_)) <;> rw[e]at hQ
   .conv=>whnf
    refine Za (Zdf (o:=none) l0) ?_
    conv=>whnf
    exact Za (Qx (o:=none) l1) hQ
   .conv=>whnf
    refine Za (Zam l0) ((Yk (l:=[.dup])).h (Zq (λe=>?_) λe=>?_)) <;> rw[e]at hQ
    .conv=>whnf
     exact Za (Zdf (o:=none) l1) hQ
    .exact hQ
  .exact hQ
end
section
variable{c:Cd}{p n k:Nat}{R:Rows}
theorem Zoe{o:Op}(h:Xe.contains o=true):o.isJ=true:=by cases o <;> first|rfl|exact absurd h (by decide)
theorem ZUh{o:Op}(h:Xe.contains o=true):o.isEnd=false:=by cases o <;> first|rfl|exact absurd h (by decide)
theorem ZLr{o:Op}(h:(o==.jump)=true):o.isJ=true:=by rw[eq_of_beq h];rfl
theorem ZLw{o:Op}{r:Rw}:Yu [o] (some r)=(r.op==o):=by
 show[o].contains r.op=_
 rw[List.contains_cons];exact Bool.or_false _
set_option tactic.hygienic true in
theorem Zxa{mk:Nat->Bool}:WOk n (Xg mk):=λp R h1 h2=>by
 unfold Xg
 split
 .rename_i r b e1 e2
  split
  .rename_i hc
   refine⟨ZHk h1,(h2.set λq e=>?_).non⟩
   cases e
   have hb:=ZLr (Bool.and_eq_true_iff.mp (Bool.and_eq_true_iff.mp (Bool.and_eq_true_iff.mp hc).1).1).2
   have:=h2 b (Zcu e2)
   exact⟨⟨this.1.1,trivial⟩,λ_=>this.2 hb⟩
  .exact⟨h1,h2⟩
 .exact⟨h1,h2⟩
theorem ZFn{mk:Nat->Bool}{r b:Rw}(e1:at_ R p=some r)(e2:at_ R (p+1)=some b):Xg mk p R=if Xe.contains r.op&&b.op==.jump&&r.t==p+2&&!mk (p+1)then(R.set p (some ⟨if r.op==.jumpif then .jumpunless else .jumpif,b.a,.none,r.line⟩)).set (p+1) none else R:=by
 unfold Xg;rw[e1,e2]
theorem Zvv(ok:Ok c):Ret 5 511 [.f c.m] (c.turned.o false) [none]:=Zpq ok (j:=1) (by decide) Zxa ZTi rfl λN E k R Q K hk h1 h2 hQ=>by
 have l1:k+1 < R.length:=h1▸hk
 have l0:k < R.length:=Nat.lt_of_succ_lt l1
 refine Za (Zam l0) (Za (Zam l1) ?_)
 cases e1:at_ R k with
 |none=>
  rw[Xg,e1]at hQ
  exact(Yk (o:=none) (l:=Xe)).h hQ
 |some r=>
  refine(Yk (o:=some r) (l:=Xe)).h ?_
  cases e2:at_ R (k+1)with
  |none=>
   rw[Xg,e1,e2]at hQ
   refine Zq (λ_=>?_) λ_=>hQ
   exact(Yk (o:=none) (l:=[.jump])).h hQ
  |some b=>
   rw[ZFn e1 e2]at hQ
   refine Zq (λc1=>?_) λc1=>?_ <;> rw[show Xe.contains r.op=_ from c1]at hQ
   .refine(Yk (o:=some b) (l:=[.jump])).h (Zq (λc2=>?_) λc2=>?_) <;> rw[ZLw]at c2 <;> rw[c2]at hQ
    .conv=>whnf
     rw[((h2 r (Zcu e1)).2 (Zoe c1)).1]
     refine Za (K:=λb=>ZTz _ E _ (.f (.bool b)) _) (Zef (b:=k+2)) ?_
     cases c3:r.t==k+2 <;> rw[c3]at hQ
     .exact hQ
     .conv=>whnf
      refine Za (Zaa (Nat.lt_succ_of_lt hk)) ?_
      cases c4:c.mark (k+1) <;> rw[c4]at hQ
      .conv=>whnf
       refine Za (Zhu r.op .jumpif) ?_
       cases c5:r.op==.jumpif <;> rw[c5]at hQ
       .conv=>whnf
        refine(Qw (o:=.jumpif)).h ?_
        refine Za (Zdf (o:=some ⟨.jumpif,b.a,.none,r.line⟩) l0) ?_
        conv=>whnf
        exact Za (Qx (o:=none) l1) hQ
       .conv=>whnf
        refine(Qw (o:=.jumpunless)).h ?_
        refine Za (Zdf (o:=some ⟨.jumpunless,b.a,.none,r.line⟩) l0) ?_
        conv=>whnf
        exact Za (Qx (o:=none) l1) hQ
      .exact hQ
    .exact hQ
   .exact hQ
set_option tactic.hygienic true in
theorem Zho(ok:Ok c){mk:Nat->Bool}:WOk c.rows.length (Ya c mk):=λp R h1 h2=>by
 unfold Ya
 split
 .rename_i r b e1 e2
  have gb:=h2 b (Zcu e2)
  split
  .exact⟨h1,h2⟩
  .unfold gK
   split
   .rename_i hb
    refine⟨ZHk h1,h2.non.set λq e=>?_⟩
    obtain rfl:=ZUa e
    exact⟨⟨gb.1.1,trivial⟩,λ_=>gb.2 (Zoe hb)⟩
   .split
    .split
     .rename_i br hbr
      split
      .rename_i hb
       refine⟨ZHk h1,h2.non.set λq e=>?_⟩
       cases e
       refine⟨⟨trivial,gb.1.2⟩,λ_=>⟨rfl,?_⟩⟩
       show(if _ then _ else _) < _
       split
       .exact(ok.jmp br (List.mem_of_getElem? hbr) (Zoe hb)).2
       .exact ok.nxt _ br hbr (ZUh hb)
      .exact⟨h1,h2⟩
     .exact⟨h1,h2⟩
    .exact⟨h1,h2⟩
 .exact⟨h1,h2⟩
theorem Ybf{t:Nat}:Zcs .Add (nat t) (.int 1)=some (.f (nat (t+1))):=rfl
theorem Zxd{mk:Nat->Bool}{r b:Rw}(e1:at_ R p=some r)(e2:at_ R (p+1)=some b):Ya c mk p R=if !(r.op==.push)||mk (p+1)then R else gK c p R r b:=by
 unfold Ya;rw[e1,e2]
theorem ZYp{r b:Rw}(h:Xe.contains b.op=false)(hj:(b.op==.jump)=true)(hl:b.t < c.rows.length):gK c p R r b=if Xe.contains c.rows[b.t].op then(R.set p none).set (p+1) (some (b.to (if Jh r.a==(c.rows[b.t].op==.jumpif)then c.rows[b.t].t else b.t+1)))else R:=by
 unfold gK
 rw[h,if_neg Bool.false_ne_true,hj,if_pos rfl,List.getElem?_eq_getElem hl]
theorem ZCv(ok:Ok c):Ret 5 504 [.f c.m] (c.known.o false) [none]:=Zpq ok (j:=1) (by decide) (Zho ok) ZTj rfl λN E k R Q K hk h1 h2 hQ=>by
 have l1:k+1 < R.length:=h1▸hk
 have l0:k < R.length:=Nat.lt_of_succ_lt l1
 refine Za (Zam l0) (Za (Zam l1) ?_)
 cases e1:at_ R k with
 |none=>
  rw[Ya,e1]at hQ
  exact(Yk (o:=none) (l:=[.push])).h hQ
 |some r=>
  refine(Yk (o:=some r) (l:=[.push])).h ?_
  rw[ZLw]
  cases e2:at_ R (k+1)with
  |none=>
   rw[Ya,e1,e2]at hQ
   cases r.op==.push <;> exact hQ
  |some b=>
   have gb:=h2 b (Zcu e2)
   have pr:=(h2 r (Zcu e1)).1.1
   rw[Zxd e1 e2]at hQ
   cases c1:r.op==.push <;> rw[c1]at hQ
   .exact hQ
   .conv=>whnf
    refine Za (Zaa (Nat.lt_succ_of_lt hk)) ?_
    cases c2:c.mark (k+1) <;> rw[c2]at hQ
    .conv=>whnf
     refine Za (ZRr b.op) ?_
     replace hQ:Q (ZIe c (gK c k R r b) none _):=hQ
     cases c3:Xe.contains b.op
     .conv=>whnf
      refine Za (Zhu b.op .jump) ?_
      cases c4:b.op==.jump
      .rw[gK,c3,c4]at hQ
       exact hQ
      .obtain⟨j1,j2⟩:=gb.2 (ZLr c4)
       rw[ZYp c3 c4 j2]at hQ
       have gm:getItem (.f (.lst (c.rows.map Rw.m))) b.a=some c.rows[b.t].m:=j1▸Zal j2
       conv=>whnf
       refine Za gm (Za (ZRr c.rows[b.t].op) ?_)
       cases c5:Xe.contains c.rows[b.t].op <;> rw[c5]at hQ
       .exact hQ
       .obtain⟨q1,q2⟩:=ok.jmp _ (List.getElem_mem j2) (Zoe c5)
        conv=>whnf
        refine Za gm ((Zdr (r:=c.rows[b.t]) pr).h (Zq (λc6=>?_) λc6=>?_)) <;> rw[c6]at hQ
        .conv=>whnf
         refine Za (Zdf (o:=none) l0) ?_
         conv=>whnf
         rw[q1]
         exact(Zgx (r:=b) (t:=c.rows[b.t].t)).h (Zv rfl (Za (Qx (o:=some (b.to c.rows[b.t].t)) l1) hQ))
        .conv=>whnf
         rw[j1]
         refine Za (Zdf (o:=none) l0) ?_
         conv=>whnf
         exact(Zgx (r:=b) (t:=b.t+1)).h (Zv rfl (Za (Qx (o:=some (b.to (b.t+1))) l1) hQ))
     .conv=>whnf
      rw[gK,c3,if_pos rfl]at hQ
      refine(Zdr (r:=b) pr).h (Za (Zdf (o:=none) l0) (Zq (λc6=>?_) λc6=>?_)) <;> rw[c6]at hQ
      .exact(Qw (o:=.jump)).h (Za (Qx (o:=some ⟨.jump,b.a,.none,b.line⟩) l1) hQ)
      .conv=>whnf
       exact Za (Qx (o:=none) l1) hQ
    .exact hQ
end
section
variable{c:Cd}{R:Rows}{n:Nat}
noncomputable def kept(R:Rows):Nat:=(R.filterMap id).length
theorem Zky{i j:Nat}(h:i<=j):plc R i<=plc R j:=by
 unfold plc
 have e:R.take i++(R.take j).drop i=R.take j:=by
  have:=List.take_append_drop i (R.take j)
  rwa [List.take_take,Nat.min_eq_left h]at this
 rw[<- e,List.filterMap_append,List.length_append]
 exact Nat.le_add_right _ _
theorem Zfa{i:Nat}{o:Option Rw}(h:R[i]?=some o):plc R (i+1)=plc R i+(if o.isSome then 1 else 0):=by
 unfold plc
 obtain⟨hi,rfl⟩:=List.getElem?_eq_some_iff.mp h
 rw[List.take_succ_eq_append_getElem hi,List.filterMap_append,List.length_append]
 cases R[i] <;> simp
theorem ZDh:plc R R.length=kept R:=by unfold plc kept;rw[List.take_length]
theorem Zbu{i:Nat}:plc R i<=kept R:=by
 rcases Nat.le_total i R.length with h|h
 .rw[<- ZDh];exact Zky h
 .unfold plc kept;rw[List.take_of_length_le h];exact Nat.le_refl _
theorem ZKf{i:Nat}{r:Rw}(h:R[i]?=some (some r)):plc R (i+1)=plc R i+1:=Zfa h
theorem Zpb{n:Nat}(h:0 < n):n - 1+1=n:=Nat.sub_add_cancel h
theorem ZTq{n:Nat}(h:0 < n):n - 2+1<=n:=Nat.le_trans (Nat.succ_le_succ (Nat.sub_le_sub_left (Nat.le_succ 1) n)) (Nat.le_of_eq (Zpb h))
theorem ne1{p n:Nat}(h:p+1 < n):p≠n - 1:=Nat.ne_of_lt (Nat.lt_sub_of_add_lt h)
theorem Ok.lt1(ok:Ok c):c.rows.length - 1 < c.rows.length:=Nat.sub_lt ok.pos Nat.one_pos
theorem ZKg{t j:Nat}{r:Rw}(ht:t<=j)(h:R[j]?=some (some r)):plc R t < kept R:=Nat.lt_of_le_of_lt (Zky ht) (show plc R j+1<=kept R from ZKf h▸Zbu)
theorem ZEs{R:Rows}{r:Rw}:∀{j:Nat},(R.filterMap id)[j]?=some r->∃i,R[i]?=some (some r)/\plc R i=j:=by
 induction R with
 |nil=>exactλh=>nomatch h
 |cons o R ih=>cases o with
  |none=>exactλh=>(ih h).elim λi z=>⟨i+1,z.1,z.2⟩
  |some q=>exactλ{j} h=>by cases j with
   |zero=>exact⟨0,congrArg some h,rfl⟩
   |succ j=>exact(ih h).elim λi z=>⟨i+1,z.1,congrArg (·+1) z.2⟩
noncomputable def Fwd(R:Rows)(t:Nat):Prop:=∃j r,t<=j/\R[j]?=some (some r)
theorem Fwd.lt{t:Nat}(h:Fwd R t):plc R t < kept R:=by obtain⟨j,r,h1,h2⟩:=h;exact ZKg h1 h2
theorem Zgv{r:Rw}{f:Nat->Nat}:(r.re f).op=r.op:=by unfold Rw.re;split <;> rfl
structure PGo(c:Cd)(R:Rows):Prop where
 len:R.length=c.rows.length
 pln:∀r,some r∈R->r.pl
 jmp:∀r,some r∈R->r.op.isJ=true->Fwd R r.t
 nxt:∀i r,R[i]?=some (some r)->r.op.isEnd=false->Fwd R (i+1)
 cat:∀k∈c.catches,plc R k.first < plc R k.last->Fwd R k.target
 sta:∀s∈c.starts,Fwd R s
theorem PGo.ok(ok:Ok c)(h:PGo c R):Ok (c.pressed R):=by
 have hk:(c.pressed R).rows.length=kept R:=by unfold Cd.pressed kept;rw[List.length_map]
 have hle:kept R<=c.rows.length:=by rw[<- h.len];exact List.length_filterMap_le _ _
 have mem:∀r∈(c.pressed R).rows,∃r0,some r0∈R/\r=r0.re (plc R):=λr hr=>by
  obtain⟨r0,h0,rfl⟩:=List.mem_map.mp hr
  obtain⟨o,ho,e⟩:=List.mem_filterMap.mp h0
  exact⟨r0,by rw[<- show o=some r0 from e];exact ho,rfl⟩
 refine⟨by rw[hk];exact Nat.le_trans hle ok.len,λr hr hj=>?_,λr hr=>?_,λp r hp he=>?_,λk hk'=>?_,?_,λs hs=>?_,?_,λe=>ok.sne (List.map_eq_nil_iff.mp e)⟩
 .obtain⟨r0,h0,rfl⟩:=mem r hr
  rw[Zgv]at hj
  unfold Rw.re
  rw[if_pos hj,hk]
  exact⟨rfl,(h.jmp r0 h0 hj).lt⟩
 .obtain⟨r0,h0,rfl⟩:=mem r hr
  unfold Rw.re
  split
  .exact⟨trivial,(h.pln r0 h0).2⟩
  .exact h.pln r0 h0
 .rw[hk]
  have hp':((R.filterMap id).map (·.re (plc R)))[p]?=some r:=hp
  rw[List.getElem?_map]at hp'
  obtain⟨r0,h0,rfl⟩:=Option.map_eq_some_iff.mp hp'
  obtain⟨i,h1,rfl⟩:=ZEs h0
  rw[Zgv]at he
  exact ZKf h1▸(h.nxt i r0 h1 he).lt
 .obtain⟨k0,h0,e⟩:=List.mem_filterMap.mp hk'
  unfold Ct.re at e
  split at e
  .rename_i hlt
   cases e
   rw[hk]
   exact⟨hlt,Zbu,(h.cat k0 h0 hlt).lt⟩
  .cases e
 .exact Nat.le_trans (List.length_filterMap_le _ _) ok.cln
 .obtain⟨s0,h0,rfl⟩:=List.mem_map.mp hs
  rw[hk];exact(h.sta s0 h0).lt
 .show(c.starts.map (plc R)).length<=10
  rw[List.length_map];exact ok.sln
theorem Ok.last(ok:Ok c){r:Rw}(h:c.rows[c.rows.length - 1]?=some r):r.op.isEnd=true:=by
 cases he:r.op.isEnd with
 |true=>rfl
 |false=>exact absurd (ok.nxt _ r h he) (Nat.not_lt_of_le (Nat.le_of_eq (Zpb ok.pos).symm))
theorem PGo.keep(ok:Ok c)(hl:R.length=c.rows.length)(hlast:∃r,R[c.rows.length - 1]?=some (some r)/\r.op.isEnd=true)(hp:∀r,some r∈R->r.pl)(hj:∀r,some r∈R->r.op.isJ=true->r.t < c.rows.length):PGo c R:=by
 obtain⟨q,hq,hqe⟩:=hlast
 have fw:∀t,t < c.rows.length->Fwd R t:=λt ht=>⟨_,q,Nat.le_sub_one_of_lt ht,hq⟩
 refine⟨hl,hp,λr hr h=>fw _ (hj r hr h),λi r hi he=>?_,λk hk _=>fw _ (ok.cat k hk).2.2,λs hs=>fw _ (ok.sta s hs)⟩
 have hi':i < c.rows.length:=by rw[<- hl];exact(List.getElem?_eq_some_iff.mp hi).1
 by_cases h:i+1 < c.rows.length
 .exact fw _ h
 .rw[show i=c.rows.length - 1 from Nat.eq_sub_of_add_eq (Nat.le_antisymm hi' (Nat.not_lt.mp h)),hq]at hi
  cases hi
  rw[hqe]at he;cases he
end
section
variable{c:Cd}{R:Rows}{n p:Nat}
structure WI(n:Nat)(R:Rows):Prop where
 len:R.length=n
 all:AllG n R
 last:∃r,R[n - 1]?=some (some r)/\r.op.isEnd=true
theorem Qd{l:List Op}{o:Option Rw}(h:Yu l o=true):∃r,o=some r/\r.op∈l:=by
 cases o with
 |none=>cases h
 |some r=>exact⟨r,rfl,List.contains_iff_mem.mp h⟩
theorem ZHu{r:Rw}(h:at_ R p=some r):R[p]?=some (some r):=by
 unfold at_ at h
 cases hp:R[p]? with
 |none=>rw[hp]at h;cases h
 |some o=>rw[hp]at h;rw[show o=some r from h]
theorem WI.ne(w:WI n R){l:List Op}(h:Yu l (at_ R p)=true)(hl:∀o∈l,o.isEnd=false):p≠n - 1:=by
 rintro rfl
 obtain⟨r,e1,e2⟩:=Qd h
 obtain⟨q,h1,h2⟩:=w.last
 rw[ZHu e1]at h1
 cases h1
 rw[hl _ e2]at h2;cases h2
theorem WI.set(w:WI n R){o:Option Rw}(hp:p≠n - 1)(ho:∀r,o=some r->good n r):WI n (R.set p o):=by
 obtain⟨q,h1,h2⟩:=w.last
 exact⟨by rw[List.length_set,w.len],w.all.set ho,q,by rw[List.getElem?_set_ne hp];exact h1,h2⟩
theorem WI.non(w:WI n R)(hp:p≠n - 1):WI n (R.set p none):=w.set hp λr e=>by cases e
theorem WI.init(ok:Ok c):WI c.rows.length c.all:=by
 refine⟨by rw[Cd.all,List.length_map],AllG.init ok,c.rows[c.rows.length - 1]'ok.lt1,?_,ok.last (List.getElem?_eq_getElem ok.lt1)⟩
 rw[Cd.all,List.getElem?_map,List.getElem?_eq_getElem ok.lt1];rfl
theorem WI.win{g:Nat->Rows->Rows}(hg:∀p R,p+1 < n->WI n R->WI n (g p R)):∀k,k+1<=n->WI n R->WI n (win g k R)
 |0,_,w=>w
 |k+1,hk,w=>hg k _ hk (WI.win hg k (Nat.le_of_succ_le hk) w)
theorem WI.go(ok:Ok c)(w:WI c.rows.length R):PGo c R:=PGo.keep ok w.len w.last (λr hr=>(w.all r hr).1) λr hr hj=>((w.all r hr).2 hj).2
theorem ZKa{mk:Nat->Bool}(p:Nat)(R:Rows)(hp:p+1 < n)(w:WI n R):WI n (Je mk p R):=by
 unfold Je
 split
 .rename_i h
  exact(w.non (ne1 hp)).non (w.ne (Xz (Xz h).1).2 (by decide))
 .exact w
theorem ZNa{mk:Nat->Bool}(p:Nat)(R:Rows)(hp:p+1 < n)(w:WI n R):WI n (Yr mk p R):=by
 unfold Yr
 split
 .rename_i h
  exact(w.non (ne1 hp)).non (w.ne (Xz (Xz h).1).2 (by decide))
 .exact w
theorem ZIr{mk:Nat->Bool}(p:Nat)(R:Rows)(hp:p+1 < n)(w:WI n R):WI n (Jd mk p R):=by
 unfold Jd
 split
 .exact w
 .rename_i h
  simp only[Bool.or_eq_true,Bool.not_eq_true',not_or]at h
  have hs:Yu [.swap] (at_ R (p+1))=true:=by simpa using h.1
  split
  .exact(w.non (ne1 hp)).non (w.ne hs (by decide))
  .split
   .exact w.non (w.ne hs (by decide))
   .exact w
set_option tactic.hygienic true in
theorem ZIf{mk:Nat->Bool}(p:Nat)(R:Rows)(hp:p+1 < n)(w:WI n R):WI n (Xg mk p R):=by
 unfold Xg
 split
 .rename_i r b e1 e2
  split
  .rename_i hc
   simp only[Bool.and_eq_true,beq_iff_eq]at hc
   have gb:=w.all b (Zcu e2)
   have gr:=(w.all r (Zcu e1)).2 (Zoe hc.1.1.1)
   refine(w.set (ne1 hp) λq e=>?_).non (ne1 (Nat.lt_of_le_of_lt (Nat.le_of_eq hc.1.2.symm) gr.2))
   cases e
   exact⟨⟨gb.1.1,trivial⟩,λ_=>gb.2 (by rw[hc.1.1.2];rfl)⟩
  .exact w
 .exact w
set_option tactic.hygienic true in
theorem ZEr(ok:Ok c){mk:Nat->Bool}(p:Nat)(R:Rows)(hp:p+1 < c.rows.length)(w:WI c.rows.length R):WI c.rows.length (Ya c mk p R):=by
 obtain⟨h1,h2⟩:=Zho ok (mk:=mk) p R w.len w.all
 refine⟨h1,h2,?_⟩
 obtain⟨q,k1,k2⟩:=w.last
 have keep:∀{o:Option Rw},p+1≠c.rows.length - 1->∃r,((R.set p none).set (p+1) o)[c.rows.length - 1]?=some (some r)/\r.op.isEnd=true:=λ{o} hne=>⟨q,by rw[List.getElem?_set_ne hne,List.getElem?_set_ne (ne1 hp)];exact k1,k2⟩
 unfold Ya
 split
 .rename_i r b e1 e2
  split
  .exact⟨q,k1,k2⟩
  .unfold gK
   split
   .rename_i hb
    refine keep λe=>?_
    rw[e]at e2
    rw[ZHu e2]at k1
    cases k1
    rw[ZUh hb]at k2;cases k2
   .split
    .rename_i hj
     split
     .split
      .by_cases e:p+1=c.rows.length - 1
       .refine⟨_,by rw[<- e,List.getElem?_set_self (by rw[List.length_set,w.len];exact hp)],?_⟩
        show b.op.isEnd=true
        rw[eq_of_beq hj];rfl
       .exact keep e
      .exact⟨q,k1,k2⟩
     .exact⟨q,k1,k2⟩
    .exact⟨q,k1,k2⟩
 .exact⟨q,k1,k2⟩
theorem Ok.pushes(ok:Ok c):Ok c.pushes:=PGo.ok ok ((WI.init ok).win ZKa _ (Nat.le_of_eq (Zpb ok.pos))|>.go ok)
theorem Ok.copies(ok:Ok c):Ok c.copies:=PGo.ok ok ((WI.init ok).win ZNa _ (ZTq ok.pos)|>.go ok)
theorem Ok.swaps(ok:Ok c):Ok c.swaps:=PGo.ok ok ((WI.init ok).win ZIr _ (Nat.le_of_eq (Zpb ok.pos))|>.go ok)
theorem Ok.turned(ok:Ok c):Ok c.turned:=PGo.ok ok ((WI.init ok).win ZIf _ (Nat.le_of_eq (Zpb ok.pos))|>.go ok)
theorem Ok.known(ok:Ok c):Ok c.known:=PGo.ok ok ((WI.init ok).win (ZEr ok) _ (Nat.le_of_eq (Zpb ok.pos))|>.go ok)
end
section
variable{c:Cd}{R:Rows}{n p:Nat}
theorem ZBu{r:Rw}(h:r.op.isEnd=true):(c.thr r).op.isEnd=true:=by
 unfold Cd.thr
 split
 .split
  .rfl
  .exact h
 .exact h
theorem Ok.threaded(ok:Ok c):Ok c.threaded:=by
 refine PGo.ok ok (PGo.keep ok (List.length_map _) ⟨c.thr (c.rows[c.rows.length - 1]'ok.lt1),?_,ZBu (ok.last (List.getElem?_eq_getElem ok.lt1))⟩ (λr hr=>?_) λr hr hj=>?_)
 .rw[List.getElem?_map,List.getElem?_eq_getElem ok.lt1];rfl
 .obtain⟨r0,h0,e⟩:=List.mem_map.mp hr
  cases e
  unfold Cd.thr
  split
  .split
   .exact⟨trivial,trivial⟩
   .exact⟨trivial,(ok.pln r0 h0).2⟩
  .exact ok.pln r0 h0
 .obtain⟨r0,h0,e⟩:=List.mem_map.mp hr
  cases e
  by_cases hq:r0.op.isJ=true
  .rw[Cd.thr,if_pos hq]at hj⊢
   split at hj
   .cases hj
   .rename_i hs
    rw[if_neg hs]
    exact Zhs ok (ok.jmp r0 h0 hq).2
  .rw[Cd.thr,if_neg hq]at hj;exact absurd hj hq
theorem Qm{l:List Rw}{f:Rw×Nat->Option Rw}{i:Nat}(h:i < l.length):(l.zipIdx.map f)[i]?=some (f (l[i],i)):=by
 rw[List.getElem?_map,List.getElem?_zipIdx,List.getElem?_eq_getElem h];exact congrArg (λn=>some (f (l[i],n))) (Nat.zero_add i)
theorem Ok.short(ok:Ok c):Ok c.short:=by
 refine PGo.ok ok (PGo.keep ok (by rw[List.length_map,List.length_zipIdx]) ⟨c.rows[c.rows.length - 1]'ok.lt1,?_,ok.last (List.getElem?_eq_getElem ok.lt1)⟩ (λr hr=>?_) λr hr hj=>?_)
 .rw[Qm ok.lt1]
  exact congrArg some (if_neg λq=>absurd (ok.jmp _ (List.getElem_mem _) (Xz q).1).2 (Nat.not_lt_of_le (Nat.le_of_eq ((Zpb ok.pos).symm.trans (eq_of_beq (Xz q).2).symm))))
 .obtain⟨x,hx,e⟩:=List.mem_map.mp hr
  unfold Zg at e
  split at e
  .split at e
   .cases e;exact⟨trivial,trivial⟩
   .cases e
  .cases e;exact ok.pln _ (List.mem_of_getElem? (Zce hx))
 .obtain⟨x,hx,e⟩:=List.mem_map.mp hr
  obtain rfl:=Zgq e hj
  exact(ok.jmp _ (List.mem_of_getElem? (Zce hx)) hj).2
theorem Reach.lt(ok:Ok c){q:Nat}(h:Reach c q):q < c.rows.length:=by
 cases h with
 |start hs=>exact ok.sta _ hs
 |step _ hq=>exact Zbj ok hq
theorem Zaz{i:Nat}(h:i < c.rows.length):(c.rows.zipIdx.map λx=>if c.live x.2 then some x.1 else none)[i]?=some (if c.live i then some c.rows[i]else none):=Qm h
open Classical in
theorem Yn{q:Nat}:c.live q=true↔Reach c q:=by unfold Cd.live;exact decide_eq_true_iff
theorem Zba(ok:Ok c){q:Nat}(h:Reach c q):Fwd (c.rows.zipIdx.map λx=>if c.live x.2 then some x.1 else none) q:=
 ⟨q,c.rows[q]'(h.lt ok),Nat.le_refl _,by rw[Zaz (h.lt ok),if_pos (Yn.mpr h)]⟩
theorem ZDg{d a:Nat}(h:plc R a < plc R (a+d)):∃i r,a<=i/\i < a+d/\R[i]?=some (some r):=by
 induction d with
 |zero=>exact absurd h (Nat.lt_irrefl _)
 |succ d ih=>
  by_cases hd:plc R a < plc R (a+d)
  .exact(ih hd).imp λi=>.imp λr h=>⟨h.1,Nat.lt_succ_of_lt h.2.1,h.2.2⟩
  .cases hq:R[a+d]? with
   |none=>
    have hl:=List.getElem?_eq_none_iff.mp hq
    exact absurd (Nat.lt_of_lt_of_eq h (show plc R (a+d+1)=plc R (a+d)by unfold plc;rw[List.take_of_length_le (Nat.le_succ_of_le hl),List.take_of_length_le hl])) hd
   |some o=>
    cases o with
    |none=>exact absurd (Nat.lt_of_lt_of_eq h (Zfa hq)) hd
    |some r=>exact⟨a+d,r,Nat.le_add_right ..,Nat.lt_succ_self _,hq⟩
noncomputable def Cd.dd(c:Cd):Rows:=c.rows.zipIdx.map λx=>if c.live x.2 then some x.1 else none
theorem ZAx:c.dd.length=c.rows.length:=by rw[Cd.dd,List.length_map,List.length_zipIdx]
theorem ZSj{i:Nat}{r:Rw}(h:c.dd[i]?=some (some r)):Reach c i/\c.rows[i]?=some r:=by
 have hi:i < c.rows.length:=ZAx▸(List.getElem?_eq_some_iff.mp h).1
 rw[Cd.dd,Zaz hi]at h
 cases hl:c.live i with
 |true=>rw[hl]at h;cases h;exact⟨Yn.mp hl,List.getElem?_eq_getElem hi⟩
 |false=>rw[hl]at h;cases h
theorem Ok.undead(ok:Ok c):Ok c.undead:=by
 have mem:∀{r},some r∈c.dd->∃i,Reach c i/\c.rows[i]?=some r:=λ{r} h=>(List.mem_iff_getElem?.mp h).imp λi=>ZSj
 refine PGo.ok (R:=c.dd) ok ⟨ZAx,λr hr=>?_,λr hr hj=>?_,λi r hi he=>?_,λk hk hlt=>?_,λs hs=>Zba ok (.start hs)⟩
 .obtain⟨i,_,h2⟩:=mem hr
  exact ok.pln r (List.mem_of_getElem? h2)
 .obtain⟨i,h1,h2⟩:=mem hr
  refine Zba ok (.step h1 ?_)
  unfold Cd.succ
  rw[h2]
  dsimp only
  rw[if_pos hj];exact List.mem_cons_self
 .obtain⟨h1,h2⟩:=ZSj hi
  refine Zba ok (.step h1 ?_)
  unfold Cd.succ
  rw[h2]
  dsimp only
  rw[he];exact List.mem_append_left _ (List.mem_append_right _ List.mem_cons_self)
 .obtain⟨d,hd⟩:∃d,k.last=k.first+d:=⟨k.last - k.first,(Nat.add_sub_cancel' (Nat.le_of_lt (ok.cat k hk).1)).symm⟩
  rw[hd]at hlt
  obtain⟨i,r,h1,h2,h3⟩:=ZDg hlt
  obtain⟨r1,r2⟩:=ZSj h3
  refine Zba ok (.step r1 ?_)
  unfold Cd.succ
  rw[r2]
  dsimp only
  refine List.mem_append_right _ (List.mem_map.mpr ⟨k,List.mem_filter.mpr ⟨hk,?_⟩,rfl⟩)
  rw[decide_eq_true h1,decide_eq_true (show i < k.last from hd▸h2)];rfl
noncomputable def Cd.round(c:Cd):Cd:=((c.threaded.known.turned.short).undead).pushes.copies.swaps
theorem Ok.round(ok:Ok c):Ok c.round:=ok.threaded.known.turned.short.undead.pushes.copies.swaps
end
section
variable{c:Cd}{R:Rows}{n p:Nat}
noncomputable def Ue(R:Rows):Prop:=kept R=R.length
theorem Zfk:kept R<=R.length:=List.length_filterMap_le _ _
theorem Zcp{o:Option Rw}:Ue (o::R)↔(∃r,o=some r)/\Ue R:=by
 have:=Zfk (R:=R)
 unfold Ue kept at*
 cases o with
 |none=>exact⟨λh=>absurd h (Nat.ne_of_lt (Nat.lt_succ_of_le this)),λh=>by cases h.1.choose_spec⟩
 |some r=>simp
theorem Ux{i:Nat}{o:Option Rw}(h:Ue R)(e:R[i]?=some o):∃r,o=some r:=by
 induction R generalizing i with
 |nil=>rw[List.getElem?_nil]at e;cases e
 |cons a R ih=>cases i with
  |zero=>cases e;exact(Zcp.mp h).1
  |succ i=>exact ih (Zcp.mp h).2 e
theorem Zlw{o:Option Rw}(h:Ue (R.set p o))(hp:p < R.length):∃r,o=some r:=Ux h (List.getElem?_set_self hp)
theorem Zxg:Ue c.all:=by unfold Ue kept Cd.all;rw[List.filterMap_map,List.length_map];simp
theorem Zkh{g:Nat->Rows->Rows}(hg:∀p R,p+1 < n->R.length=n->(g p R).length=n/\(Ue (g p R)->g p R=R)):∀k R,k+1<=n->R.length=n->(win g k R).length=n/\(Ue (win g k R)->win g k R=R)
 |0,R,_,h=>⟨h,λ_=>rfl⟩
 |k+1,R,hk,h=>by
  obtain⟨h1,h2⟩:=Zkh hg k R (Nat.le_of_succ_le hk) h
  obtain⟨h3,h4⟩:=hg k (win g k R) hk h1
  refine⟨h3,λhf=>?_⟩
  have e:=h4 hf
  rw[show win g (k+1) R=g k (win g k R)from rfl,e]
  exact h2 (by rw[<- e];exact hf)
theorem ZDs{i:Nat}{o:Option Rw}{A:Prop}(h:Ue ((R.set i none).set p o))(hi:i < R.length)(hne:p≠i):A:=by
 obtain⟨r,e⟩:=Ux h (i:=i) (o:=none) (by rw[List.getElem?_set_ne hne,List.getElem?_set_self hi])
 cases e
theorem ZQm(hl:R.length=n)(hp:p < n):(R.set p none).length=n/\(Ue (R.set p none)->R.set p none=R):=
 ⟨List.length_set.trans hl,λh=>by obtain⟨r,e⟩:=Zlw h (hl▸hp);cases e⟩
theorem Zoo{i:Nat}{o:Option Rw}(hl:R.length=n)(hi:i < n)(ne:p≠i):((R.set i none).set p o).length=n/\(Ue ((R.set i none).set p o)->(R.set i none).set p o=R):=
 ⟨List.length_set.trans (List.length_set.trans hl),λh=>ZDs h (hl▸hi) ne⟩
theorem Zqe{mk:Nat->Bool}(p:Nat)(R:Rows)(hp:p+1 < n)(hl:R.length=n):(Je mk p R).length=n/\(Ue (Je mk p R)->Je mk p R=R):=by
 unfold Je
 split
 .exact Zoo hl (Nat.lt_of_succ_lt hp) (Nat.succ_ne_self _)
 .exact⟨hl,λ_=>rfl⟩
theorem Ztm{mk:Nat->Bool}(p:Nat)(R:Rows)(hp:p+1 < n)(hl:R.length=n):(Yr mk p R).length=n/\(Ue (Yr mk p R)->Yr mk p R=R):=by
 unfold Yr
 split
 .exact Zoo hl (Nat.lt_of_succ_lt hp) (Nat.ne_of_gt (Nat.lt_add_of_pos_right (by decide)))
 .exact⟨hl,λ_=>rfl⟩
theorem Zoz{mk:Nat->Bool}(p:Nat)(R:Rows)(hp:p+1 < n)(hl:R.length=n):(Jd mk p R).length=n/\(Ue (Jd mk p R)->Jd mk p R=R):=by
 unfold Jd
 split
 .exact⟨hl,λ_=>rfl⟩
 .split
  .exact Zoo hl (Nat.lt_of_succ_lt hp) (Nat.succ_ne_self _)
  .split
   .exact ZQm hl hp
   .exact⟨hl,λ_=>rfl⟩
theorem Zop{mk:Nat->Bool}(p:Nat)(R:Rows)(hp:p+1 < n)(hl:R.length=n):(Xg mk p R).length=n/\(Ue (Xg mk p R)->Xg mk p R=R):=by
 unfold Xg
 split
 .split
  .exact⟨List.length_set.trans (List.length_set.trans hl),λh=>by obtain⟨r,e⟩:=Zlw h (by rw[List.length_set];exact hl▸hp);cases e⟩
  .exact⟨hl,λ_=>rfl⟩
 .exact⟨hl,λ_=>rfl⟩
theorem Zjf{mk:Nat->Bool}(p:Nat)(R:Rows)(hp:p+1 < n)(hl:R.length=n):(Ya c mk p R).length=n/\(Ue (Ya c mk p R)->Ya c mk p R=R):=by
 unfold Ya
 split
 .split
  .exact⟨hl,λ_=>rfl⟩
  .unfold gK
   split
   .exact Zoo hl (Nat.lt_of_succ_lt hp) (Nat.succ_ne_self _)
   .split
    .split
     .split
      .exact Zoo hl (Nat.lt_of_succ_lt hp) (Nat.succ_ne_self _)
      .exact⟨hl,λ_=>rfl⟩
     .exact⟨hl,λ_=>rfl⟩
    .exact⟨hl,λ_=>rfl⟩
 .exact⟨hl,λ_=>rfl⟩
theorem Zkz(h:Ue R){i:Nat}(hi:i<=R.length):plc R i=i:=by
 induction i with
 |zero=>rfl
 |succ i ih=>
  obtain⟨r,e⟩:=Ux h (List.getElem?_eq_getElem hi)
  rw[Zfa (List.getElem?_eq_getElem hi),ih (Nat.le_of_succ_le hi),e];rfl
theorem Rw.same{r:Rw}(h:r.a=nat r.t):r.to r.t=r:=by
 cases r
 exact congrArg (Rw.mk _ · _ _) h.symm
theorem Uf{α β:Type}{f g:α->Option β}:∀{l:List α},(∀a∈l,f a=g a)->l.filterMap f=l.filterMap g
 | [],_=>rfl
 |a::l,h=>by
  rw[List.filterMap_cons,List.filterMap_cons,h a (.head _),Uf λb hb=>h b (.tail _ hb)]
theorem Cd.ext{c d:Cd}(h1:c.rows=d.rows)(h2:c.catches=d.catches)(h3:c.starts=d.starts):c=d:=by
 cases c;cases d;cases h1;cases h2;cases h3;rfl
theorem Qi(ok:Ok c):c.pressed c.all=c:=by
 have hl:c.all.length=c.rows.length:=by rw[Cd.all,List.length_map]
 have pf:∀i,i<=c.rows.length->plc c.all i=i:=λi hi=>Zkz Zxg (Nat.le_trans hi (Nat.le_of_eq hl.symm))
 have e1:(c.pressed c.all).rows=c.rows:=by
  show(c.all.filterMap id).map _=_
  rw[show c.all.filterMap id=c.rows by unfold Cd.all;rw[List.filterMap_map];simp]
  conv=>rhs;rw[<- List.map_id c.rows]
  refine List.map_congr_left λr hr=>?_
  unfold Rw.re
  split
  .rename_i hj
   have:=ok.jmp r hr hj
   rw[pf _ (Nat.le_of_lt this.2)]
   exact Rw.same this.1
  .rfl
 refine Cd.ext e1 ?_ ?_
 .show c.catches.filterMap _=_
  conv=>rhs;rw[<- List.filterMap_some (l:=c.catches)]
  refine Uf λk hk=>?_
  obtain⟨h1,h2,h3⟩:=ok.cat k hk
  unfold Ct.re
  rw[pf _ (Nat.le_trans (Nat.le_of_lt h1) h2),pf _ h2,pf _ (Nat.le_of_lt h3),if_pos h1]
 .show c.starts.map _=_
  conv=>rhs;rw[<- List.map_id c.starts]
  exact List.map_congr_left λs hs=>pf s (Nat.le_of_lt (ok.sta s hs))
theorem Yg:(c.pressed R).rows.length=kept R:=by unfold Cd.pressed kept;rw[List.length_map]
noncomputable def Still(c d:Cd):Prop:=d.rows.length<=c.rows.length/\(d.rows.length=c.rows.length->d=c)
theorem Zcx:c.all.length=c.rows.length:=by rw[Cd.all,List.length_map]
theorem Still.win{g:Nat->Rows->Rows}(ok:Ok c)(hg:∀p R,p+1 < c.rows.length->R.length=c.rows.length->(g p R).length=c.rows.length/\(Ue (g p R)->g p R=R)){k:Nat}(hk:k+1<=c.rows.length):Still c (c.pressed (win g k c.all)):=by
 obtain⟨h1,h2⟩:=Zkh hg k c.all hk Zcx
 unfold Still
 rw[Yg]
 refine⟨by rw[<- h1];exact Zfk,λe=>?_⟩
 rw[h2 (by unfold Ue;rw[h1];exact e),Qi ok]
theorem Zmu(ok:Ok c):Still c c.undead:=by
 have hl:(c.rows.zipIdx.map λx=>if c.live x.2 then some x.1 else none).length=c.rows.length:=by rw[List.length_map,List.length_zipIdx]
 unfold Still Cd.undead
 rw[Yg]
 refine⟨by rw[<- hl];exact Zfk,λe=>?_⟩
 have hf:Ue (c.rows.zipIdx.map λx=>if c.live x.2 then some x.1 else none):=by unfold Ue;rw[hl];exact e
 have:(c.rows.zipIdx.map λx=>if c.live x.2 then some x.1 else none)=c.all:=by
  apply List.ext_getElem?
  intro i
  by_cases hi:i < c.rows.length
  .rw[Zaz hi,Cd.all,List.getElem?_map,List.getElem?_eq_getElem hi]
   obtain⟨r,hr⟩:=Ux hf (Zaz hi)
   split at hr
   .rename_i h;rw[if_pos h];rfl
   .cases hr
  .rw[List.getElem?_eq_none (hl.symm▸Nat.not_lt.mp hi),List.getElem?_eq_none (Zcx.symm▸Nat.not_lt.mp hi)]
 rw[this,Qi ok]
noncomputable def ZBf(c d:Cd):Prop:=d.rows.length=c.rows.length/\∀(i:Nat) (h1:i < c.rows.length) (h2:i < d.rows.length),c.rows[i].op=d.rows[i].op/\(c.rows[i].op.isJ=true->c.rows[i].t=d.rows[i].t)
theorem Zph:c.short.rows.length<=c.rows.length:=by
 unfold Cd.short
 rw[Yg]
 have:=Zfk (R:=c.rows.zipIdx.map λx=>Zg x.2 x.1)
 rwa [List.length_map,List.length_zipIdx]at this
theorem Zcj:∀{R:Rows},Ue R->R=(R.filterMap id).map some
 | [],_=>rfl
 |o::R,h=>by
  obtain⟨⟨r,rfl⟩,h2⟩:=Zcp.mp h
  rw[List.filterMap_cons]
  simp only[id_eq,List.map_cons,List.cons.injEq,true_and]
  exact Zcj h2
theorem Zip(ok:Ok c)(hl:c.short.rows.length=c.rows.length)(ho:∀(i:Nat) (h1:i < c.rows.length) (h2:i < c.short.rows.length),c.rows[i].op=c.short.rows[i].op):c.short=c:=by
 have hn:(c.rows.zipIdx.map λx=>Zg x.2 x.1).length=c.rows.length:=by rw[List.length_map,List.length_zipIdx]
 have hf:Ue (c.rows.zipIdx.map λx=>Zg x.2 x.1):=by unfold Ue;rw[hn,<- hl];unfold Cd.short;rw[Yg]
 have e:=Zcj hf
 have:(c.rows.zipIdx.map λx=>Zg x.2 x.1)=c.all:=by
  apply List.ext_getElem?
  intro i
  by_cases hi:i < c.rows.length
  .rw[Qm (f:=λx=>Zg x.2 x.1) hi,Cd.all,List.getElem?_map,List.getElem?_eq_getElem hi]
   obtain⟨r,hr⟩:=Ux hf (Qm (f:=λx=>Zg x.2 x.1) hi)
   dsimp only at hr
   have h3:((c.rows.zipIdx.map λx=>Zg x.2 x.1).filterMap id)[i]?=some r:=by
    have:=Qm (f:=λx=>Zg x.2 x.1) hi
    rw[e,List.getElem?_map]at this
    obtain⟨q,hq,hq2⟩:=Option.map_eq_some_iff.mp this
    dsimp only at hq2
    rw[hr]at hq2;cases hq2;exact hq
   have h4:c.short.rows[i]?=some (r.re (plc (c.rows.zipIdx.map λx=>Zg x.2 x.1))):=by
    show((List.filterMap id _).map _)[i]?=_
    rw[List.getElem?_map,h3];rfl
   have h5:=ho i hi (by rw[hl];exact hi)
   have h6:c.short.rows[i]'(by rw[hl];exact hi)=r.re (plc (c.rows.zipIdx.map λx=>Zg x.2 x.1)):=by
    rw[List.getElem?_eq_getElem (by rw[hl];exact hi)]at h4;exact Option.some.inj h4
   rw[h6,Zgv]at h5
   unfold Zg at hr⊢
   split at hr
   .rename_i hc
    split at hr
    .cases hr
     rw[h5]at hc;exact nomatch (Xz hc).1
    .cases hr
   .rename_i hc;dsimp only at hc⊢;rw[if_neg hc];rfl
  .rw[List.getElem?_eq_none (hn.symm▸Nat.not_lt.mp hi),List.getElem?_eq_none (Zcx.symm▸Nat.not_lt.mp hi)]
 unfold Cd.short
 rw[this,Qi ok]
end
section
variable{c:Cd}{R:Rows}{n p:Nat}
theorem ZMm{l:List Rw}:(l.map some).filterMap id=l:=by rw[List.filterMap_map];exact List.filterMap_some
theorem Zsr{l:List Rw}:Ue (l.map some):=by unfold Ue kept;rw[ZMm,List.length_map]
theorem Zhb(ok:Ok c){l:List Rw}(hl:l.length=c.rows.length)(hj:∀r∈l,r.op.isJ=true->r.a=nat r.t/\r.t<=c.rows.length):c.pressed (l.map some)=⟨l,c.catches,c.starts⟩:=by
 have hn:(l.map some).length=c.rows.length:=by rw[List.length_map,hl]
 have pf:∀i,i<=c.rows.length->plc (l.map some) i=i:=λi hi=>Zkz Zsr (hn.symm▸hi)
 refine Cd.ext ?_ ?_ ?_
 .show((l.map some).filterMap id).map _=l
  rw[ZMm]
  conv=>rhs;rw[<- List.map_id l]
  refine List.map_congr_left λr hr=>?_
  unfold Rw.re
  split
  .rename_i h
   have:=hj r hr h
   rw[pf _ this.2]
   exact Rw.same this.1
  .rfl
 .show c.catches.filterMap _=c.catches
  conv=>rhs;rw[<- List.filterMap_some (l:=c.catches)]
  refine Uf λk hk=>?_
  obtain⟨h1,h2,h3⟩:=ok.cat k hk
  unfold Ct.re
  rw[pf _ (Nat.le_trans (Nat.le_of_lt h1) h2),pf _ h2,pf _ (Nat.le_of_lt h3),if_pos h1]
 .show c.starts.map _=c.starts
  conv=>rhs;rw[<- List.map_id c.starts]
  exact List.map_congr_left λs hs=>pf s (Nat.le_of_lt (ok.sta s hs))
theorem Zad(ok:Ok c):c.threaded=⟨c.rows.map c.thr,c.catches,c.starts⟩:=by
 unfold Cd.threaded
 rw[show(c.rows.map λr=>some (c.thr r))=(c.rows.map c.thr).map some by rw[List.map_map];rfl]
 refine Zhb ok (by rw[List.length_map]) λr hr hj=>?_
 exact(Zqh ok).jmp r (by obtain⟨q,hq,e⟩:=List.mem_map.mp hr;exact List.mem_map.mpr ⟨q,hq,by rw[e]⟩) hj|>λx=>⟨x.1,by have:=x.2;rwa [List.length_map]at this⟩
theorem Zpg(hl:c.short.rows.length=c.rows.length){i:Nat}(hi:i < c.rows.length)(h2:i < c.short.rows.length):∃r,Zg i c.rows[i]=some r/\c.short.rows[i].op=r.op:=by
 have hn:(c.rows.zipIdx.map λx=>Zg x.2 x.1).length=c.rows.length:=by rw[List.length_map,List.length_zipIdx]
 have hf:Ue (c.rows.zipIdx.map λx=>Zg x.2 x.1):=by unfold Ue;rw[hn,<- hl];unfold Cd.short;rw[Yg]
 obtain⟨r,hr⟩:=Ux hf (Qm (f:=λx=>Zg x.2 x.1) hi)
 refine⟨r,hr,?_⟩
 have h3:((c.rows.zipIdx.map λx=>Zg x.2 x.1).filterMap id)[i]?=some r:=by
  have:=Qm (f:=λx=>Zg x.2 x.1) hi
  rw[Zcj hf,List.getElem?_map]at this
  obtain⟨q,hq,hq2⟩:=Option.map_eq_some_iff.mp this
  dsimp only at hq2
  rw[hr]at hq2;cases hq2;exact hq
 have h4:c.short.rows[i]?=some (r.re (plc (c.rows.zipIdx.map λx=>Zg x.2 x.1))):=by
  show((List.filterMap id _).map _)[i]?=_
  rw[List.getElem?_map,h3];rfl
 rw[List.getElem?_eq_getElem h2]at h4
 rw[Option.some.inj h4,Zgv]
theorem Still.trans{a b d:Cd}(x:Still a b)(y:Still b d):Still a d:=⟨Nat.le_trans y.1 x.1,λe=>by
 have e1:=x.2 (Nat.le_antisymm x.1 (by rw[<- e];exact y.1))
 subst e1
 exact y.2 e⟩
theorem Zis{c d:Cd}(h:c=d){i:Nat}(h1:i < c.rows.length)(h2:i < d.rows.length):c.rows[i]=d.rows[i]:=by subst h;rfl
theorem ZTc{o:Op}(h:o=.leave):o.isJ=false:=by rw[h];rfl
theorem Zpm(ok:Ok c)(h:ZBf c c.round):c.round=c:=by
 have k1:=ok.threaded
 have k2:=k1.known
 have k4:=k2.turned.short
 have k5:=k4.undead
 have k6:=k5.pushes
 have k7:=k6.copies
 have sa:Still c.threaded c.threaded.known.turned:=Still.trans (Still.win k1 Zjf (by exact Nat.le_of_eq (Zpb k1.pos))) (Still.win k2 Zop (by exact Nat.le_of_eq (Zpb k2.pos)))
 have sb:Still c.threaded.known.turned.short c.round:=Still.trans (Zmu k4) (Still.trans (Still.win k5 Zqe (by exact Nat.le_of_eq (Zpb k5.pos))) (Still.trans (Still.win k6 Ztm (by exact ZTq k6.pos)) (Still.win k7 Zoz (by exact Nat.le_of_eq (Zpb k7.pos)))))
 have s4:=Zph (c:=c.threaded.known.turned)
 have hr:c.threaded.rows=c.rows.map c.thr:=by rw[Zad ok]
 have l1:c.threaded.rows.length=c.rows.length:=by rw[hr,List.length_map]
 have l8:=h.1
 have l9:=Nat.le_of_eq (l1.trans l8.symm)
 have lr:∀{i},i < c.rows.length->i < c.round.rows.length:=λh=>Nat.lt_of_lt_of_eq h l8.symm
 have e3:=sa.2 (Nat.le_antisymm sa.1 (Nat.le_trans l9 (Nat.le_trans sb.1 s4)))
 rw[e3]at sb s4
 have e8:=sb.2 (Nat.le_antisymm sb.1 (Nat.le_trans s4 l9))
 have l4:c.threaded.short.rows.length=c.threaded.rows.length:=(congrArg (·.rows.length) e8).symm.trans (l8.trans l1.symm)
 have row:∀(i:Nat) (hi:i < c.rows.length) (h2:i < c.threaded.rows.length),c.threaded.rows[i]=c.thr c.rows[i]:=λi hi h2=>by
  have:c.threaded.rows[i]?=some (c.thr c.rows[i]):=by rw[hr,List.getElem?_map,List.getElem?_eq_getElem hi];rfl
  rw[List.getElem?_eq_getElem h2]at this
  exact Option.some.inj this
 have ops:∀(i:Nat) (hi:i < c.rows.length) (h2:i < c.threaded.rows.length),c.threaded.rows[i].op=c.rows[i].op:=λi hi h2=>by
  have h3:i < c.threaded.short.rows.length:=Nat.lt_of_lt_of_eq h2 l4.symm
  obtain⟨r,hr1,hr2⟩:=Zpg l4 h2 h3
  have q2:=@Zis c.round c.threaded.short e8 i (lr hi) h3
  have q1:=((h.2 i hi (lr hi)).1.trans (congrArg Rw.op q2)).trans hr2
  rw[row i hi h2]at hr1⊢
  unfold Cd.thr at hr1⊢
  split
  .rename_i hj
   rw[if_pos hj]at hr1
   split
   .rename_i hc
    rw[if_pos hc]at hr1
    have:r.op=.leave:=by
     unfold Zg at hr1
     rw[if_neg (by exactλq=>nomatch (Xz q).1)]at hr1
     cases hr1;rfl
    rw[q1,this]at hj;cases hj
   .rfl
  .rfl
 have e4:c.threaded.short=c.threaded:=Zip k1 l4 λi h1 h2=>by
  have hi:i < c.rows.length:=Nat.lt_of_lt_of_eq h1 l1
  exact(ops i hi h1).trans ((h.2 i hi (lr hi)).1.trans (congrArg Rw.op (@Zis c.round c.threaded.short e8 i (lr hi) h2)))
 have e9:c.round=c.threaded:=by rw[e8,e4]
 rw[e9,Zad ok]
 refine Cd.ext ?_ rfl rfl
 show c.rows.map c.thr=c.rows
 apply List.ext_getElem (by rw[List.length_map])
 intro i h1 h2
 rw[List.getElem_map]
 have q1:=h.2 i h2 (lr h2)
 have q2:=(@Zis c.round c.threaded e9 i (lr h2) (Nat.lt_of_lt_of_eq h2 l1.symm)).trans (row i h2 (Nat.lt_of_lt_of_eq h2 l1.symm))
 rw[q2]at q1
 unfold Cd.thr at q1⊢
 split
 .rename_i hj
  rw[if_pos hj]at q1
  split
  .rename_i hc
   rw[if_pos hc]at q1
   rw[q1.1]at hj;cases hj
  .rename_i hc
   rw[if_neg hc]at q1
   have:=q1.2 hj
   rw[ZVb]at this
   rw[<- this]
   exact Rw.same (ok.jmp _ (List.getElem_mem h2) hj).1
 .rfl
noncomputable def Cd.rounds:Nat->Cd->Cd
 |0,c=>c
 |k+1,c=>Cd.rounds k c.round
theorem Zmx(h:c.round=c)(k:Nat):Cd.rounds k c=c:=by
 induction k with
 |zero=>rfl
 |succ k ih=>rw[Cd.rounds,h,ih]
end
section
variable{c d:Cd}
noncomputable def shp(r:Rw):MV:=.tup [r.op.m,r.a,r.b,.none]
noncomputable def IsC(v:OV)(c:Cd):Prop:=v=.f c.m\/v=c.o false
theorem Ret.up{k a:Nat}{args:List OV}{v:OV}{outs:List (Option OV)}(h:Ret k a args v outs):Ret (k+1) a args v outs:=⟨λ{N E K} hK=>(Nat.add_right_comm N 1 k).trans rfl▸h.h (N:=N+1) hK⟩
theorem Zps:Ret 1 539 [.f c.m] (.l (c.rows.map shp)) [none]:=.of ZWi _ rfl λN E K hK=>CompP.mp c.rows Rw.m shp rfl (λr hr R hR=>hR) hK
noncomputable def pyD:MV->PyData
 | .bool b=>.bool b
 | .int i=>.int i
 | .str s=>.str s
 |_=>.none
theorem Zen{v:MV}{n:Nat}(h:Jf v):Zdc n v=some (pyD v):=by
 cases v with
 |none=>rfl
 |bool b=>rfl
 |int i=>rfl
 |str s=>exact if_pos h
 |_=>exact h.elim
noncomputable def Zqb(r:Rw):PyData:=.tuple [.str (Str.ofString r.op.n),pyD r.a,pyD r.b,.none]
theorem Zvd{r:Rw}{n:Nat}(h:r.pl):Zdc (n+1) (shp r)=some (Zqb r):=by
 have e:Zdc (n+1) (shp r)=((Zdc n (.str (Str.ofString r.op.n))).bind λw=>((Zdc n r.a).bind λx=>((Zdc n r.b).bind λy=>(some [PyData.none]).map (y::·)).map (x::·)).map (w::·)).map PyData.tuple:=rfl
 rw[e,Zen h.1,Zen h.2,Zdn];rfl
theorem Zbg{n:Nat}:∀{l:List Rw},(∀r∈l,r.pl)->Yx (n+1) (l.map shp)=some (l.map Zqb)
 | [],_=>rfl
 |r::l,h=>by
  show(Zdc (n+1) (shp r)).bind (λx=>(Yx (n+1) (l.map shp)).map _)=_
  rw[Zvd (h r List.mem_cons_self),Zbg λq hq=>h q (List.mem_cons_of_mem _ hq)];rfl
theorem ZFy:∀{l k:List Rw},PyData.eqvAll (l.map Zqb) (k.map Zqb)=true->l.length=k.length/\∀(i:Nat) (h1:i < l.length) (h2:i < k.length),(Zqb l[i]).eqv (Zqb k[i])=true:=λ{l}=>by
 induction l with
 |nil=>exactλ{k} h=>by cases k with
  |nil=>exact⟨rfl,λi h1=>absurd h1 (Nat.not_lt_zero i)⟩
  |cons b k=>rw[List.map_cons,List.map_nil,PyData.eqvAll]at h;cases h
 |cons a l ih=>exactλ{k} h=>by cases k with
  |nil=>rw[List.map_cons,List.map_nil,PyData.eqvAll]at h;cases h
  |cons b k=>
   rw[List.map_cons,List.map_cons,PyData.eqvAll,Bool.and_eq_true]at h
   obtain⟨h1,h2⟩:=ih h.2
   exact⟨congrArg (·+1) h1,λi x y=>by cases i with
    |zero=>exact h.1
    |succ i=>exact h2 i (Nat.lt_of_succ_lt_succ x) (Nat.lt_of_succ_lt_succ y)⟩
theorem ZFz{r q:Rw}(h:(Zqb r).eqv (Zqb q)=true)(hr:r.op.isJ=true->r.a=nat r.t)(hq:q.op.isJ=true->q.a=nat q.t):r.op=q.op/\(r.op.isJ=true->r.t=q.t):=by
 unfold Zqb at h
 rw[PyData.eqv,PyData.eqvAll,PyData.eqvAll,Bool.and_eq_true,Bool.and_eq_true,Zxv,Zlc]at h
 have e:=eq_of_beq h.1
 refine⟨e,λhj=>?_⟩
 have h2:=h.2.1
 rw[hr hj,hq (e▸hj)]at h2
 unfold nat pyD at h2
 rw[PyData.eqv]at h2
 exact Int.ofNat_inj.mp (eq_of_beq h2)
theorem Zvo(h1:Ok c)(h2:Ok d):∃b,Ym .Eq (.lst (c.rows.map shp)) (.f (.lst (d.rows.map shp)))=some b/\(b=true->ZBf d c):=by
 refine⟨PyData.eqvAll (c.rows.map Zqb) (d.rows.map Zqb),?_,λh=>?_⟩
 .have hd:=h2.pos
  cases hl:d.rows with
  |nil=>rw[hl]at hd;cases hd
  |cons a l=>
   have e:∀X,Zdc Zr (.lst X)=(Yx (6+1) X).map PyData.list:=λ_=>rfl
   show Zil (.lst (c.rows.map shp)) (.lst ((a::l).map shp))=_
   rw[<- hl]
   unfold Zil
   rw[e,e,Zbg h1.pln,Zbg h2.pln];rfl
 .obtain⟨e,k⟩:=ZFy h
  refine⟨e,λi x y=>?_⟩
  have:=ZFz (k i y x) (λz=>(h1.jmp _ (List.getElem_mem y) z).1) (λz=>(h2.jmp _ (List.getElem_mem x) z).1)
  exact⟨this.1.symm,λz=>(this.2 (this.1▸z)).symm⟩
end
section
variable{c d:Cd}
theorem Tree.some{a k:Nat}{pols:List Pol}{dfl:List MV}{b:CE}(T:Tree a k pols dfl b):(TT.fn a).isSome=true:=by
 obtain⟨_,_,h,_⟩:=T.ex
 rw[h];rfl
noncomputable abbrev Pass:=String×Nat×(Cd->Cd)
noncomputable def Xm:List Pass:=[("threaded",464,Cd.threaded),("known branches",504,Cd.known),("turned branches",511,Cd.turned),("short jumps",518,Cd.short),("dead rows",476,Cd.undead),("pushes",483,Cd.pushes),("copies",490,Cd.copies),("swaps",525,Cd.swaps)]
structure ZOm(x:Pass):Prop where
 ok:∀{c},Ok c->Ok (x.2.2 c)
 fn:(TT.fn x.2.1).isSome=true
 r:∀{c},Ok c->Ret 5 x.2.1 [.f c.m] ((x.2.2 c).o false) [none]
theorem Zqj:∀x∈Xm,ZOm x:=by
 refine List.forall_mem_cons.mpr ⟨⟨Ok.threaded,ZTn.some,λok=>(Zmz ok).up⟩,List.forall_mem_cons.mpr ⟨⟨Ok.known,ZTj.some,ZCv⟩,List.forall_mem_cons.mpr ⟨⟨Ok.turned,ZTi.some,Zvv⟩,List.forall_mem_cons.mpr ⟨⟨Ok.short,ZTh.some,λok=>(ZCr ok).up⟩,List.forall_mem_cons.mpr ⟨⟨Ok.undead,ZTm.some,λok=>(ZJy ok).up⟩,List.forall_mem_cons.mpr ⟨⟨Ok.pushes,ZTl.some,Zvz⟩,List.forall_mem_cons.mpr ⟨⟨Ok.copies,ZTk.some,Zwa⟩,List.forall_mem_cons.mpr ⟨⟨Ok.swaps,ZTg.some,ZCp⟩,nofun⟩⟩⟩⟩⟩⟩⟩⟩
noncomputable def ZKh(x:Pass):MV:=.tup [.str (Str.ofString x.1),.con (.ref x.2.1)]
theorem Zvy(ok:Ok c):Ret 6 546 [.f c.m] (.f (Cd.rounds 24 c).m) [none]:=.of ZWh _ rfl λN E K hK=>by
 refine ForP.ex (List.range 24) nat (λk σ=>∃v d j,IsC v d/\Ok d/\j+k=24/\Cd.rounds 24 c=Cd.rounds j d/\σ=[some v,none,none,none,none]) id _ (congrArg (·,_) (Option.some.inj (Jc (n:=24) (by decide)))) ⟨_,c,24,.inl rfl,ok,rfl,rfl,rfl⟩ (λk hk σ z R H=>?_) λσ z=>?_
 .obtain⟨v,d,j,hv,okd,hj,hr,e⟩:=z
  subst e
  cases j with
  |zero=>exact absurd (hj.symm.trans (Nat.zero_add k)) (Nat.ne_of_gt hk)
  |succ j=>
   obtain⟨b,he,hs⟩:=Zvo okd.round okd
   refine(λmain=>by rcases hv with rfl|rfl <;> (conv=>whnf) <;> exact main) ?_
   refine(Zps (c:=d)).h ?_
   conv=>whnf
   refine ForP.ex Xm ZKh (λj σ=>∃v e,IsC v e/\Ok e/\(Xm.drop j).foldl (λc x=>x.2.2 c) e=d.round/\σ=[some v,some (.f (nat (List.range 24)[k])),some (.l (d.rows.map shp)),none,none]) id _ rfl ⟨_,d,.inl rfl,okd,rfl,rfl⟩ (λj hj σ z R' H'=>?_) λσ z=>?_
   .obtain⟨v,e,hv,oke,hf,e'⟩:=z
    subst e'
    have P:=Zqj _ (List.getElem_mem hj)
    conv=>whnf
    refine Zv P.fn ?_
    refine(λmain=>by rcases hv with rfl|rfl <;> (conv=>whnf) <;> exact main) ?_
    refine(P.r oke).h ?_
    rw[List.drop_eq_getElem_cons hj]at hf
    exact H' _ ⟨_,_,.inr rfl,P.ok oke,hf,rfl⟩
   .obtain⟨v,e,hv,oke,hf,e'⟩:=z
    subst e'
    rw[List.drop_length]at hf
    obtain rfl:e=d.round:=hf
    refine(λmain=>by rcases hv with rfl|rfl <;> (conv=>whnf) <;> exact main) ?_
    refine(Zps (c:=d.round)).h ?_
    conv=>whnf
    refine Za he ?_
    cases b
    .exact H _ ⟨_,d.round,j,.inl rfl,okd.round,(Nat.add_right_comm j 1 k).symm.trans hj,hr,rfl⟩
    .have e:=Zpm okd (hs rfl)
     rw[hr,Zmx e,<- e]at hK
     exact hK
 .obtain⟨v,d,j,hv,okd,hj,hr,e⟩:=z
  subst e
  obtain rfl:j=0:=Nat.add_eq_right.mp hj
  refine(λmain=>by rcases hv with rfl|rfl <;> (conv=>whnf) <;> exact main) ?_
  rw[hr]at hK
  exact hK
theorem Ok.rounds(ok:Ok c):∀k,Ok (Cd.rounds k c):=λk=>by
 induction k generalizing c with
 |zero=>exact ok
 |succ k ih=>exact ih ok.round
theorem CompP.emp{bind:MV->Sg->Option Sg}{cond:Sg->(Bool->Sg->Prop)->Prop}{elt:Sg->(OV->Sg->Prop)->Prop}{σ:Sg}{K:List MV->Prop}(h:K []):CompP bind cond elt [] σ K:=⟨⟨[],rfl,h⟩⟩
theorem ZCo{k:Nat}(h:Ret (k+3) 546 [.f c.m] (.f d.m) [none]):Ret (k+4) 551 [.f c.m] (d.o false) [none]:=.of ZWg _ rfl λN E K hK=>by
 refine h.h ?_
 conv=>whnf
 refine CompP.emp ?_
 exact(Zbp (c:=d) (d:=d)).h (N:=N+k+1) hK
theorem Zpr(ok:Ok c):Ret 7 551 [.f c.m] ((Cd.rounds 24 c).o false) [none]:=ZCo (Zvy ok)
theorem Ys(a b:String):Ym .Eq (.str (Str.ofString a)) (.f (.str (Str.ofString b)))=some (a==b):=Zrc a b
theorem ZCt{nm:String}{x:Pass}(h:Xm.find? (λx=>x.1==nm)=some x):Ret 1 558 [.f (.str (Str.ofString nm))] (.f (.con (.ref x.2.1))) [none]:=.of ZWf _ rfl λN E K hK=>by
 refine ForP.ex Xm ZKh (λj σ=>(Xm.drop j).find? (λx=>x.1==nm)=some x/\σ=[some (.f (.str (Str.ofString nm))),none,none]) id _ rfl ⟨h,rfl⟩ (λj hj σ z R H=>?_) λσ z=>(by cases z.1)
 obtain⟨h,e⟩:=z
 subst e
 rw[List.drop_eq_getElem_cons hj,List.find?_cons]at h
 conv=>whnf
 refine Za (Ys _ _) ?_
 cases hb:Xm[j].1==nm
 .rw[hb]at h
  exact H _ ⟨h,rfl⟩
 .rw[hb]at h
  cases h
  exact hK
theorem Zgw:Ret 2 147 [c.o false,.f (.lst (d.rows.map Rw.m)),.f (.lst (d.catches.map Ct.m)),.f (.lst (d.starts.map nat)),.f (.lst [])] (d.o false) [some (c.o false),none,none,none,none]:=.of ZTo _ rfl λN E K hK=>(Zkt (c:=d) (own:=false)).h hK
theorem Qt{x:Pass}(hx:Xm.find? (λy=>y.1==x.1)=some x)(ok:Ok c):Ret 6 563 [.f c.m,.f (.lst [.str (Str.ofString x.1)])] ((x.2.2 c).o false) [none,none]:=.of ZWe _ rfl λN E K hK=>by
 have P:=Zqj _ (List.mem_of_find?_eq_some hx)
 refine ForP.ex [x] (λx=>.str (Str.ofString x.1)) (λj σ=>σ=[some (if j=0 then .f c.m else(x.2.2 c).o false),some (.f (.lst [.str (Str.ofString x.1)])),none,none]) id _ rfl rfl (λj hj σ e R H=>?_) λσ e=>?_
 .subst e
  obtain rfl:=Nat.lt_one_iff.mp hj
  conv=>whnf
  refine(ZCt hx).h ?_
  conv=>whnf
  refine Zv P.fn ?_
  exact(P.r ok).h (H _ rfl)
 .subst e
  refine CompP.emp ?_
  exact Zgw.h (N:=N+3) hK
end
section
variable{c:Cd}{r:Rw}{m:Nat}
theorem ZGb(o:Op):onS (λp:Str×MV=>getItem (.f p.2) o.m=some (.tup [nat o.tk,nat o.pt])) (nth Xw 12):=by cases o <;> rfl
theorem ZQc:Ret 1 303 [.f r.m] (.f (.tup [nat r.op.tk,nat r.op.pt])) [none]:=.of ZXc _ rfl λN E K hK=>by
 conv=>whnf
 exact Za (ZGb r.op) hK
theorem Ziv{n:Int}:Ret 1 313 [.f (.int n)] (.f (.bool true)) [none]:=.of ZXb _ rfl λN E K hK=>hK
noncomputable def ZHx(l:String)(v:MV):Prop:=(["n","t"].contains l=true/\∃s,v=.str s)\/((["n","t"].contains l=false/\["c","p"].contains l=true)/\∃i:Int,v=.int i/\0<=i)\/l="v"
theorem Zcn(s:String)(l:List String):Ym .In (.str (Str.ofString s)) (.f (.tup (l.map λx=>.str (Str.ofString x))))=some (l.contains s):=Zcl s l
theorem Zpw{l:String}{v:MV}(h:ZHx l v):Ret 2 334 [.f r.m,.f (.str (Str.ofString l)),.f v] (.f (.bool true)) [none,none,none]:=.of ZXa _ rfl λN E K hK=>by
 rcases h with⟨h1,s,rfl⟩|⟨⟨h1,h2⟩,i,rfl,hi⟩|e
 .exact Za (Zcn l ["n","t"]) (Zv h1 hK)
 .refine Za (Zcn l ["n","t"]) (Yz h1 (Za (Zcn l ["c","p"]) (Zv h2 (Ziv.h ?_))))
  rw[<- decide_eq_true hi]at hK
  exact hK
 .have n:∀{x},("v"==x)=false->(l==x)=false:=λ{x} h=>e▸h
  refine Za (Zcn l ["n","t"]) (Yz (e▸rfl) (Za (Zcn l ["c","p"]) (Yz (e▸rfl) ?_)))
  exact Za (Ys l "a") (Yz (n rfl) (Za (Ys l "i") (Yz (n rfl) (Za (Ys l "f") (Yz (n rfl) (Za (Ys l "r") (Yz (n rfl) (Za (Ys l "k") (Yz (n rfl) (Za (Ys l "b") (Yz (n rfl) (Za (Ys l "s") (Yz (n rfl) hK)))))))))))))
theorem ZKr(o:Op):(o.n=="lambda"||(["def","sdef"].contains o.n||(["class","module"].contains o.n||(o.n=="sclass"||(o.n=="send"||(o.n=="super"||o.n=="zsuper"))))))=false:=by cases o <;> rfl
theorem ZCx:Ret 1 341 [.f r.m] (.f .none) [none]:=.of ZWz _ rfl λN E K hK=>by
 obtain⟨h1,h⟩:=Bool.or_eq_false_iff.mp (ZKr r.op)
 obtain⟨h2,h⟩:=Bool.or_eq_false_iff.mp h
 obtain⟨h3,h⟩:=Bool.or_eq_false_iff.mp h
 obtain⟨h4,h⟩:=Bool.or_eq_false_iff.mp h
 obtain⟨h5,h⟩:=Bool.or_eq_false_iff.mp h
 obtain⟨h6,h7⟩:=Bool.or_eq_false_iff.mp h
 refine Za (Ys r.op.n "lambda") (Yz h1 (Za (Zcn r.op.n ["def","sdef"]) (Yz h2 (Za (Zcn r.op.n ["class","module"]) (Yz h3 (Za (Ys r.op.n "sclass") (Yz h4 ?_)))))))
 exact Za (Ys r.op.n "send") (Yz h5 (Za (Ys r.op.n "super") (Yz h6 (Za (Ys r.op.n "zsuper") (Yz h7 hK)))))
end
section
variable{c:Cd}{r:Rw}{ds ws:List MV}{p:Nat}
noncomputable def rc(c:Cd)(ds ws:List MV):OV:=.o 410 [("code",.f c.m),("seen",.l [c.m]),("depths",.l ds),("waiting",.l ws)]
theorem ZXm(hl:c.rows.length<=Zb):Ret 1 355 [.o 410 [],.f c.m,.f (.tup [])] (.f .none) [some (rc c (List.replicate c.rows.length .none) []),none,none]:=.of ZWy _ rfl λN E K hK=>by
 refine Za (Ys "method" "block") ?_
 conv=>whnf
 exact Za (Zwl c.rows.length (by rw[List.length_map]) hl) hK
noncomputable def dl(n:Nat)(f:Nat->Bool)(h:Nat->Nat):List MV:=(List.range n).map λi=>if f i then nat (h i)else .none
theorem Ug{n:Nat}{f:Nat->Bool}{h:Nat->Nat}:(dl n f h).length=n:=by unfold dl;rw[List.length_map,List.length_range]
theorem Zhw{n:Nat}{f:Nat->Bool}{h:Nat->Nat}{t:Nat}(ht:t < n):(dl n f h)[t]?=some (if f t then nat (h t)else .none):=by unfold dl;rw[List.getElem?_map,List.getElem?_range ht];rfl
theorem ZMu{n:Nat}{f:Nat->Bool}{h:Nat->Nat}{t:Nat}:(dl n f h).set t (nat (h t))=dl n (λi=>f i||i==t) h:=List.ext_getElem? λi=>by
 rw[List.getElem?_set,Ug]
 by_cases hl:i < n
 .rw[Zhw hl,Zhw hl]
  by_cases e:t=i
  .subst e;rw[if_pos rfl,if_pos hl,beq_self_eq_true,Bool.or_true];rfl
  .rw[if_neg e,beq_eq_false_iff_ne.mpr (Ne.symm e),Bool.or_false]
 .rw[List.getElem?_eq_none (l:=dl n (λi=>f i||i==t) h) (by rw[Ug];exact Nat.le_of_not_lt hl)]
  by_cases e:t=i
  .subst e;rw[if_pos rfl,if_neg hl]
  .rw[if_neg e,List.getElem?_eq_none (by rw[Ug];exact Nat.le_of_not_lt hl)]
theorem ZKv{a b:Nat}:Ym .NotEq (nat a) (.f (nat b))=some (!(a==b)):=congrArg (Option.map (!·)) (Zef (a:=a) (b:=b))
theorem ZKm{f:Nat->Bool}(hf:f p=true):(λi=>f i||i==p)=f:=funext λi=>by
 by_cases e:i=p
 .subst e;rw[hf];rfl
 .exact ZDj e
theorem ZRc{a b:Nat}(h:a < b):decide ((a:Int) < b)=true:=decide_eq_true (Int.ofNat_lt.mpr h)
theorem ZXr{a b:Nat}(h:a<=b):decide ((a:Int)<=b)=true:=decide_eq_true (Int.ofNat_le.mpr h)
theorem ZYo{a b:Nat}(h:a < b):decide ((a:Int)>=b)=false:=decide_eq_false (Int.not_le.mpr (Int.ofNat_lt.mpr h))
theorem ZCs{f:Nat->Bool}{h:Nat->Nat}{o:Int}{ws:List Nat}(hp:p < c.rows.length)(hw:ws.length < Zb):Ret 2 369 [rc c (dl c.rows.length f h) (ws.map nat),.f (nat p),.f (nat (h p)),.f (.int o)] (.f .none) [some (rc c (dl c.rows.length (λi=>f i||i==p) h) ((if f p then ws else ws++[p]).map nat)),none,none,none]:=.of ZWx _ rfl λN E K hK=>by
 refine Ziv.h ?_
 conv=>whnf
 refine Yz (congrArg not (ZRc (by rw[List.length_map];exact hp))) ?_
 conv=>whnf
 refine Za (Zsj (Zhw hp)) ?_
 cases hf:f p
 .rw[hf,<- ZMu,if_neg Bool.false_ne_true,<- Yv]at hK
  conv=>whnf
  refine Za (Zwb (by rw[Ug];exact hp)) ?_
  conv=>whnf
  exact Zv (decide_eq_true (by rw[List.length_map];exact hw)) hK
 .rw[hf,ZKm hf,if_pos rfl]at hK
  conv=>whnf
  refine Za (ZKv (a:=h p) (b:=h p)) (Yz (by rw[beq_self_eq_true];rfl) hK)
end
section
variable{c:Cd}{r:Rw}{ds ws:List MV}{p:Nat}
noncomputable def lts:Op->List String
 | .push=>["v"]| .text=>["t"]| .getl| .setl=>["c","c"]| .geti| .seti| .getg| .setg| .setc| .undef=>["n"]
 | .jump| .jumpif| .jumpunless| .jumpnil=>["p"]| .fail=>["n","t"]|_=>[]
noncomputable def ltw:Op->String
 | .push=>"v"| .text=>"t"| .getl| .setl=>"cc"| .geti| .seti| .getg| .setg| .setc| .undef=>"n"
 | .jump| .jumpif| .jumpunless| .jumpnil=>"p"| .fail=>"nt"|_=>""
theorem ZEg(o:Op)(x:Option MV):onS (λp:Str×MV=>match p.2 with| .dct l=>Zhx (Str.ofString o.n) l=x->x.getD (.str (Str.ofString ""))=.str (Str.ofString (ltw o))|_=>False) (nth Xw 14):=by
 cases o <;> exactλh=>h▸rfl
theorem ZEf(o:Op):Zng (.str (Str.ofString (ltw o)))=some (.f (nat (lts o).length)):=by cases o <;> rfl
theorem Zre(o:Op):Xj "enumerate" [.str (Str.ofString (ltw o))]=some ((List.range (lts o).length).map λi=>.tup [nat i,.str (Str.ofString ((lts o).getD i ""))]):=by cases o <;> rfl
theorem ZDm{A B:Prop}(o:Op)(h:B):onS (λp:Str×MV=>match p.2 with| .dct l=>onB A B (!(Zhx (Str.ofString o.n) l).isSome)|_=>False) (nth Xw 12):=by cases o <;> exact h
noncomputable def Rw.opd(r:Rw)(i:Nat):MV:=if i=0 then r.a else r.b
structure Rw.frm(n:Nat)(r:Rw):Prop where
 l:∀i,i < (lts r.op).length->ZHx ((lts r.op).getD i "") (r.opd i)
 e:∀i,(lts r.op).length<=i->i < 2->r.opd i=.none
 j:r.op.isJ=true->r.a=nat r.t/\r.t < n
 s:r.op=.getl\/r.op=.setl->r.a=.int 0/\r.b=.int 1
theorem ZAg(o:Op):(lts o).length<=2:=by cases o <;> decide
theorem two{P:Nat->Prop}(h0:P 0)(h1:P 1){i:Nat}(h:i < 2):P i:=by
 rcases i with _|_|i
 .exact h0
 .exact h1
 .exact absurd h (Nat.not_lt_of_le (Nat.le_add_left 2 i))
theorem Zvc{i:Nat}(h:i < 2):getItem (.f (.tup [r.a,r.b,.none])) (nat i)=some (r.opd i):=two (P:=λi=>getItem (.f (.tup [r.a,r.b,.none])) (nat i)=some (r.opd i)) rfl rfl h
theorem Zor(h:r.frm c.rows.length):∃k,Zbl (.f (.tup [r.a,r.b,.none])) (some ((lts r.op).length:Int)) none=some (.f (.tup (List.replicate k .none))):=by
 have h2:=ZAg r.op
 have h0:=h.e 0
 have h1:=h.e 1
 revert h0 h1 h2
 generalize (lts r.op).length=n
 intro h2 h0 h1
 rcases n with _|_|_|n
 .exact⟨3,by rw[show r.a=.none from h0 (Nat.zero_le _) (by decide),show r.b=.none from h1 (by decide) (by decide)];rfl⟩
 .exact⟨2,by rw[show r.b=.none from h1 (by decide) (by decide)];rfl⟩
 .exact⟨1,rfl⟩
 .exact absurd h2 (Nat.not_le_of_lt (Nat.le_add_left 3 n))
theorem ZMn{k:Nat}:(List.replicate k MV.none).filterMap (λ_=>(none:Option MV))=[]:=List.filterMap_eq_nil_iff.mpr λ_ _=>rfl
theorem ZJw(h:r.frm c.rows.length):Ret 3 374 [rc c ds ws,.f (nat p),.f r.m] (.f .none) [some (rc c ds ws),none,none]:=.of ZWw _ rfl λN E K hK=>by
 conv=>whnf
 refine ZDm r.op ?_
 conv=>whnf
 generalize hx:Zhx (Str.ofString r.op.n) _=x
 have hw:x.getD (.str (Str.ofString ""))=.str (Str.ofString (ltw r.op)):=ZEg r.op x hx
 clear hx
 refine Za (a:=(List.range (lts r.op).length).map λi=>MV.tup [nat i,.str (Str.ofString ((lts r.op).getD i ""))]) ((congrArg (λq=>Xj "enumerate" [q]) hw).trans (Zre r.op)) ?_
 refine ForP.st (List.range (lts r.op).length) (λi=>.tup [nat i,.str (Str.ofString ((lts r.op).getD i ""))]) (λk=>[some (rc c ds ws),some (.f (nat p)),some (.f r.m),some (.f (x.getD (.str (Str.ofString "")))),some (.f (.tup [r.a,r.b,.none])),none,none]) rfl (λk hk R Q hQ=>?_) ?_
 .rw[List.length_range]at hk
  rw[List.getElem_range]
  conv=>whnf
  refine Za (Zvc (r:=r) (Nat.lt_of_lt_of_le hk (ZAg r.op))) ?_
  exact(Zpw (r:=r) (h.l k hk)).h hQ
 .obtain⟨k,hd⟩:=Zor h
  conv=>whnf
  refine Za (a:=.f (nat (lts r.op).length)) ((congrArg Zng hw).trans (ZEf r.op)) ?_
  conv=>whnf
  refine Za hd ?_
  refine CompP.fm (List.replicate k MV.none) id (λ_=>none) (List.map_id _).symm (λa ha R hR=>?_) ?_
  .rw[List.eq_of_mem_replicate ha]
   exact hR
  .rw[ZMn]
   conv=>whnf
   refine Za (ZFb _) (Zq (λhj=>?_) λhj=>hK)
   obtain⟨h1,h2⟩:=h.j hj
   conv=>whnf
   rw[h1]
   exact Yz (ZYo (by rw[List.length_map];exact h2)) hK
end
section
variable{c:Cd}{r:Rw}{ds ws:List MV}{p:Nat}
theorem ZCq(ha:r.a=.int 0)(hb:r.b=.int 1):Ret 1 381 [rc c ds ws,.f (nat p),.f r.m] (.f .none) [some (rc c ds ws),none,none]:=.of ZWv _ rfl λN E K hK=>by
 obtain⟨o,a,b,i⟩:=r
 obtain rfl:a=.int 0:=ha
 obtain rfl:b=.int 1:=hb
 exact hK
theorem ZJu:Ret 2 388 [rc c ds ws,.f (nat p),.f r.m] (.f .none) [some (rc c ds ws),none,none]:=.of ZWu _ rfl λN E K hK=>(ZCx (r:=r)).h hK
noncomputable def Ct.frm(n:Nat)(k:Ct):Prop:=(k.sort="rescue"\/k.sort="ensure")/\k.first < k.last/\k.last<=n/\k.target < n
theorem Zqv(s:String)(l:List String):Ym .NotIn (.str (Str.ofString s)) (.f (.tup (l.map λx=>.str (Str.ofString x))))=some !l.contains s:=congrArg (Option.map (!·)) (Zcl s l)
theorem Zpy(h:∀k∈c.catches,k.frm c.rows.length):Ret 2 400 [rc c ds ws] (.f .none) [some (rc c ds ws)]:=.of ZWs _ rfl λN E K hK=>by
 refine ForP.st c.catches Ct.m (λk=>[some (rc c ds ws),none,none,none]) rfl (λk hk R Q hQ=>?_) hK
 obtain⟨h1,h2,h3,h4⟩:=h _ (List.getElem_mem hk)
 have hl:(c.rows.map Rw.m).length=c.rows.length:=List.length_map _
 generalize c.catches[k]=q at h1 h2 h3 h4
 conv=>whnf
 refine CompP.mp [q.first,q.last,q.target,q.depth] nat (λ_=>.bool true) rfl (λa ha R hR=>Ziv.h hR) ?_
 conv=>whnf
 refine Za (Zqv q.sort ["rescue","ensure"]) ?_
 rw[show["rescue","ensure"].contains q.sort=true by rcases h1 with e|e <;> rw[e] <;> rfl]
 conv=>whnf
 refine Zv (ZRc h2) ?_
 conv=>whnf
 refine Yz (congrArg not (ZXr (hl▸h3))) ?_
 conv=>whnf
 exact Yz (congrArg not (ZRc (hl▸h4))) hQ
end
theorem CallP.mono{N a:Nat}{E E':Prop}{vals:List OV}{K:OV->List (Option OV)->Prop}(h:CallP N E a vals K)(e:E->E'):CallP N E' a vals K:=⟨λc B R w vs P hl V Q hk hE=>h.h c B R w vs P hl V Q hk λx=>hE (e x)⟩
theorem ZDn:∀p,p < 60->(Str.ofString (toString ((p:Nat):Int))).length<=5:=by decide+kernel
theorem Zmp{x y:Str}{n m:Nat}(hx:x.length<=n)(hy:y.length<=m)(h:n+m<=Zb):Zcs .Add (.str x) (.str y)=some (.f (.str (x++y)))/\(x++y).length<=n+m:=by
 have e:(x++y).length=x.length+y.length:=by
  show(x.cps++y.cps).size=_
  rw[Array.size_append];rfl
 exact⟨if_pos (Nat.le_trans (Nat.add_le_add hx hy) h),e▸Nat.add_le_add hx hy⟩
theorem ZUq:∃bn np x cp pos b,TT.fn 362=some (Zy (mD 36 1) [.lend,.frz,.frz] [])/\Zju (mD 36 1)=[.Raise (some (.Call (.Name bn np) [x] [] cp)) none pos]/\Zd x=false/\(Jg (mD 36 1)).names.lookup bn=some .globalImplicit/\TT.glob bn=some (.con (.ref b))/\TT.exc b=true/\(Zmm (mD 36 1)++[]).Nodup/\(Zmm (mD 36 1)).length=3/\
  Xy (pth (Jg (mD 36 1)).names (Zmm (mD 36 1)++[]) 40) (eC 40 (Jg (mD 36 1)).names (Zmm (mD 36 1)++[])) [.frz] [x]=cl [.bin .Add (.bin .Add (.bin .Add (.bin .Add (.ty "str" (cl [.rd (.fd (.fd (.v 0) "code") "name")])) (ks " row ")) (.ty "str" (cl [v 1]))) (ks ": ")) (v 2)]:=⟨_,_,_,_,_,_,rfl,rfl,rfl,rfl,rfl,rfl,by decide+kernel,rfl,by with_unfolding_all rfl⟩
theorem ZJx{c:Cd}{ds ws:List MV}{p N:Nat}{s:String}{E:Prop}{K:OV->List (Option OV)->Prop}(hp:p < 60)(hs:(Str.ofString s).length<=100)(e:E):CallP (N+2) E 362 [rc c ds ws,.f (nat p),.f (.str (Str.ofString s))] K:=by
 obtain⟨bn,np,x,cp,pos,b,h0,h1,h2,h3,h4,h5,h6,h7,h8⟩:=ZUq
 refine Zxj (n:=40) (m:=40) e h0 h1 h6 h7.symm h2 h3 h4 h5 ?_
 show(mg (N+1) (Xy (pth (Jg (mD 36 1)).names (Zmm (mD 36 1)++[]) 40) (eC 40 (Jg (mD 36 1)).names (Zmm (mD 36 1)++[])) [.frz] [x])).a False _ _
 rw[h8]
 obtain⟨a1,b1⟩:=Zmp (x:="c") (y:=" row ") (n:=1) (m:=5) (by decide) (by decide) (by decide)
 obtain⟨a2,b2⟩:=Zmp (n:=6) b1 (ZDn p hp) (by decide)
 obtain⟨a3,b3⟩:=Zmp (y:=": ") (n:=11) (m:=2) b2 (by decide) (by decide)
 obtain⟨a4,_⟩:=Zmp (n:=13) b3 hs (by decide)
 conv=>whnf
 refine Za (o:=Qo "str" [nat p]) (congrArg (Option.map λs=>OV.f (.str s)) (if_pos (show(p:Int).natAbs < 2 ^ 64 from Nat.lt_trans hp (by decide)))) ?_
 refine Za a2 (Za a3 (Za a4 ⟨_,rfl⟩))
section
variable{c:Cd}{r:Rw}{p:Nat}{h:Nat->Nat}
noncomputable abbrev Sr:=(Nat->Bool)×List Nat
noncomputable def rch(s:Sr)(q:Nat):Sr:=(λi=>s.1 i||i==q,if s.1 q then s.2 else s.2++[q])
theorem Zbo{s:Sr}{q n:Nat}(hs:s.2.length<=n):(rch s q).2.length<=n+1:=by
 unfold rch
 cases s.1 q
 .rw[if_neg Bool.false_ne_true,List.length_append];exact Nat.succ_le_succ hs
 .rw[if_pos rfl];exact Nat.le_succ_of_le hs
theorem ZFr:∀{l:List Nat} {s:Sr} {n:Nat},s.2.length<=n->(l.foldl rch s).2.length<=n+l.length:=λ{l}=>by
 induction l with
 |nil=>exactλh=>h
 |cons q l ih=>exactλ{s n} h=>Nat.le_trans (ih (Zbo h)) (Nat.le_of_eq (Nat.succ_add_eq_add_succ n l.length))
noncomputable def rcs(c:Cd)(h:Nat->Nat)(s:Sr):OV:=rc c (dl c.rows.length s.1 h) (s.2.map nat)
theorem Qr{s:Sr}{i o:Int}(hp:p < c.rows.length)(hw:s.2.length<=1900)(hi:i=(h p:Int)):Ret 2 369 [rcs c h s,.f (nat p),.f (.int i),.f (.int o)] (.f .none) [some (rcs c h (rch s p)),none,none,none]:=by
 subst hi
 exact ZCs hp (Nat.lt_of_le_of_lt hw (by decide))
structure At(c:Cd)(h:Nat->Nat)(p:Nat)(r:Rw):Prop where
 row:c.rows[p]?=some r
 jmp:r.op.isJ=true->r.a=nat r.t/\r.t < c.rows.length/\(r.op.tk<=h p->h r.t+r.op.tk=h p+r.op.pt)
 nxt:r.op.isEnd=false->p+1 < c.rows.length/\(r.op.tk<=h p->h (p+1)+r.op.tk=h p+r.op.pt)
 cat:∀k∈c.catches,k.first<=p->p < k.last->k.depth<=h p/\h k.target=k.depth+1/\k.target < c.rows.length
theorem ZXq{a b:Nat}(h:b<=a):decide ((a:Int) < b)=false:=decide_eq_false (Int.not_lt.mpr (Int.ofNat_le.mpr h))
noncomputable abbrev stS(c:Cd)(h:Nat->Nat)(s:Sr)(p:Nat)(r:Rw):Sg:=[some (rcs c h s),some (.f (nat p)),some (.f r.m),some (.f (nat (h p))),some (.f (nat r.op.tk)),some (.f (nat r.op.pt)),none]
theorem Qq{N:Nat}{E:Prop}{s:Sr}{Q:Fl->Sg->Prop}(ok:Ok c)(ha:At c h p r)(hw:s.2.length<=1800)(H:Q .next (stS c h ((c.hit p).foldl rch s) p r)):
  (mg (N+3) (.each (.n 6) (.ite (.rd (.fd (.fd (.v 0) "code") "catches"))) (cl [.ifs (.meth 6 "covers" 115 112 (cl [v 1])) (cl [.ifs (.cmp (v 3) (.c1 .Lt (vf 6 "depth"))) (cl [.ex (.meth 0 "fail" 410 362 (cl [v 1,(ks "the stack is lower than that of a catch")]))]) .nil,.ex (.meth 0 "reach" 410 369 (cl [vf 6 "target",.bin .Add (vf 6 "depth") (ki 1),v 1]))]) .nil]))).s E (stS c h s p r) Q:=by
 refine ForP.st c.catches Ct.m (λj=>stS c h ((Zjj c p j).foldl rch s) p r) rfl (λj hj R Q hQ=>?_) (by rw[Zjj,List.take_length];exact H)
 have hl:((Zjj c p j).foldl rch s).2.length<=1900:=Nat.le_trans (ZFr hw) (Nat.le_trans (Nat.add_le_add_left (Zse ok) _) (by decide))
 refine Zkq.h (Zv rfl ?_)
 cases e:c.catches[j].cov p
 .rw[ZAr hj e]at hQ
  exact hQ
 .rw[ZAq hj e,List.foldl_append]at hQ
  obtain⟨e1,e2⟩:=Bool.and_eq_true_iff.mp e
  obtain⟨g1,g2,g3⟩:=ha.cat _ (List.getElem_mem hj) (of_decide_eq_true e1) (of_decide_eq_true e2)
  conv=>whnf
  refine Yz (ZXq g1) ?_
  exact(Qr (s:=(Zjj c p j).foldl rch s) (p:=c.catches[j].target) g3 hl (congrArg Nat.cast g2.symm)).h hQ
theorem ZRu{a b t x:Nat}(hx:x+t=a+b)(h:t<=a):(a:Int) - t+b=(x:Int):=(Int.add_right_comm (a:Int) (-(t:Int)) b).trans ((congrArg (·+-(t:Int)) (congrArg Int.ofNat hx).symm).trans (Int.add_neg_cancel_right (x:Int) t))
theorem ZJt{s:Sr}{N:Nat}{E:Prop}{K:OV->List (Option OV)->Prop}(ok:Ok c)(hp:p < c.rows.length)(ha:At c h p c.rows[p])(hf:s.1 p=true)(hw:s.2.length<=1000)(hK:c.rows[p].op.tk<=h p->K (.f .none) [some (rcs c h ((c.succ p).foldl rch s)),none])(hE:h p < c.rows[p].op.tk->E):CallP (N+4) E 395 [rcs c h s,.f (nat p)] K:=by
 refine .of ZWt _ rfl ?_
 have hge:¬h p < c.rows[p].op.tk->c.rows[p].op.tk<=h p:=Nat.le_of_not_lt
 rw[Zgm hp,List.foldl_append]at hK
 unfold Rw.nx at hK
 generalize hr:c.rows[p]=r at*
 conv=>whnf
 refine Za (a:=r.m) (hr▸Zal hp) (Za (Zsj (Zhw hp)) ?_)
 rw[hf]
 conv=>whnf
 refine(ZQc (r:=r)).h ?_
 conv=>whnf
 refine Zq (λhd=>?_) λhd=>?_
 .refine ZJx (s:="the stack is too low") (Nat.lt_of_lt_of_le hp ok.len) (by decide) (hE (Int.ofNat_lt.mp (of_decide_eq_true hd)))
 .have hd:=hge λe=>of_decide_eq_false hd (Int.ofNat_lt.mpr e)
  replace hK:=hK hd
  conv=>whnf
  refine Za (ZFb _) ?_
  cases hj:r.op.isJ
  .rw[hj]at hK
   conv=>whnf
   refine Za (Zwk _) ?_
   cases he:r.op.isEnd
   .rw[he]at hK
    obtain⟨h4,h5⟩:=ha.nxt he
    conv=>whnf
    exact(Qr (s:=s) (p:=p+1) h4 (Nat.le_trans hw (by decide)) (ZRu (h5 hd) hd)).h (Qq ok ha (Nat.le_trans (Zbo hw) (by decide)) hK)
   .rw[he]at hK
    exact Qq ok ha (Nat.le_trans hw (by decide)) hK
  .rw[hj]at hK
   obtain⟨h1,h2,h3⟩:=ha.jmp hj
   conv=>whnf
   rw[h1]
   refine(Qr (s:=s) (p:=r.t) h2 (Nat.le_trans hw (by decide)) (ZRu (h3 hd) hd)).h ?_
   conv=>whnf
   refine Za (Zwk _) ?_
   cases he:r.op.isEnd
   .rw[he]at hK
    obtain⟨h4,h5⟩:=ha.nxt he
    conv=>whnf
    exact(Qr (s:=rch s r.t) (p:=p+1) h4 (Nat.le_trans (Zbo hw) (by decide)) (ZRu (h5 hd) hd)).h (Qq ok ha (Nat.le_trans (Zbo (Zbo hw)) (by decide)) hK)
   .rw[he]at hK
    exact Qq ok ha (Nat.le_trans (Zbo hw) (by decide)) hK
end
section
variable{c:Cd}{p:Nat}{h:Nat->Nat}{X:Nat->Prop}{s:Sr}{q i:Nat}{l:List Nat}
noncomputable def Low(c:Cd)(h:Nat->Nat):Prop:=∃p r,Reach c p/\c.rows[p]?=some r/\h p < r.op.tk
structure Hc(c:Cd)(h:Nat->Nat):Prop where
 ok:Ok c
 at_:∀p (hp:p < c.rows.length),Reach c p->At c h p c.rows[p]
 st:∀s∈c.starts,h s=0
 frm:∀r∈c.rows,r.frm c.rows.length
 cat:∀k∈c.catches,k.frm c.rows.length
noncomputable def ZUo(c:Cd)(h:Nat->Nat)(s:Sr)(i:Nat):Prop:=(∀q∈c.succ i,s.1 q=true)/\∀r,c.rows[i]?=some r->r.op.tk<=h i
structure Wb(c:Cd)(h:Nat->Nat)(X:Nat->Prop)(s:Sr):Prop where
 r:∀i,s.1 i=true->Reach c i
 w:∀q∈s.2,s.1 q=true
 d:∀i,s.1 i=true->X i\/i∈s.2\/ZUo c h s i
noncomputable def Ms(c:Cd)(s:Sr):Nat:=s.2.length+Qk c.rows.length s.1
theorem Ziu:(rch s q).1 i=true↔s.1 i=true\/i=q:=Znb
theorem ZCm{x:Nat}:x∈(rch s q).2↔x∈s.2\/(x=q/\s.1 q=false):=by
 unfold rch
 cases s.1 q
 .exact List.mem_append.trans (or_congr Iff.rfl (List.mem_singleton.trans ⟨λe=>⟨e,rfl⟩,λe=>e.1⟩))
 .exact⟨.inl,λe=>e.resolve_right λe=>nomatch e.2⟩
theorem ZAe(hq:q < c.rows.length):Ms c (rch s q)=Ms c s:=by
 unfold Ms rch
 cases hf:s.1 q with
 |true=>rw[ZKm hf];rfl
 |false=>exact(congrArg (·+_) List.length_append).trans ((Nat.add_right_comm ..).trans (congrArg (s.2.length+·) (Ua hf hq)))
theorem ZDy(hl:∀q∈l,q < c.rows.length):Ms c (l.foldl rch s)=Ms c s:=by
 induction l generalizing s with
 |nil=>rfl
 |cons q l ih=>exact(ih λx hx=>hl x (List.mem_cons_of_mem _ hx)).trans (ZAe (hl q List.mem_cons_self))
theorem Zhr(h:s.1 i=true):(l.foldl rch s).1 i=true:=by
 induction l generalizing s with
 |nil=>exact h
 |cons q l ih=>exact ih (Ziu.mpr (.inl h))
theorem Zxh(h:q∈l):(l.foldl rch s).1 q=true:=by
 induction l generalizing s with
 |nil=>cases h
 |cons a l ih=>exact(List.mem_cons.mp h).elim (λe=>Zhr (s:=rch s a) (Ziu.mpr (.inr e))) λh=>ih h
theorem Wb.go(w:Wb c h X s)(hq:Reach c q):Wb c h X (rch s q):=by
 refine⟨λi e=>(Ziu.mp e).elim (w.r i) λe=>e▸hq,λx hx=>Ziu.mpr ((ZCm.mp hx).imp (w.w x) (·.1)),λi e=>?_⟩
 cases hi:s.1 i with
 |true=>exact(w.d i hi).imp id λz=>z.imp (λz=>ZCm.mpr (.inl z)) λz=>⟨λx hx=>Ziu.mpr (.inl (z.1 x hx)),z.2⟩
 |false=>
  have e:=(Ziu.mp e).resolve_left (by rw[hi];exact Bool.false_ne_true)
  exact .inr (.inl (ZCm.mpr (.inr ⟨e,e▸hi⟩)))
theorem Wb.fold(w:Wb c h X s)(hl:∀q∈l,Reach c q):Wb c h X (l.foldl rch s):=by
 induction l generalizing s with
 |nil=>exact w
 |cons q l ih=>exact ih (w.go (hl q List.mem_cons_self)) λx hx=>hl x (List.mem_cons_of_mem _ hx)
theorem Wb.step{f:Nat->Bool}{ws:List Nat}(w:Wb c h (λ_=>False) (f,ws++[p]))(ht:∀r,c.rows[p]?=some r->r.op.tk<=h p):Wb c h (λ_=>False) ((c.succ p).foldl rch (f,ws)):=by
 have w1:Wb c h (·=p) (f,ws):=⟨w.r,λq hq=>w.w q (List.mem_append_left _ hq),λi e=>(w.d i e).elim nofun λz=>z.elim (λz=>(Zcd z).elim (λz=>.inr (.inl z)) .inl) λz=>.inr (.inr z)⟩
 have hp:=w.r p (w.w p (List.mem_append_right _ (List.mem_singleton.mpr rfl)))
 have k:=w1.fold (l:=c.succ p) λq hq=>.step hp hq
 exact⟨k.r,k.w,λi e=>(k.d i e).elim (λe=>.inr (.inr ⟨λq hq=>Zxh (e▸hq),e▸ht⟩)) .inr⟩
theorem Wb.done{f:Nat->Bool}(w:Wb c h (λ_=>False) (f,[]))(hs:∀s∈c.starts,f s=true):(∀i,f i=c.live i)/\¬Low c h:=by
 have dn:∀{i},f i=true->ZUo c h (f,[]) i:=λ{i} e=>((w.d i e).resolve_left nofun).resolve_left nofun
 have key:∀{i},Reach c i->f i=true:=λ{i} r=>by
  induction r with
  |start hst=>exact hs _ hst
  |step r hq ih=>exact(dn ih).1 _ hq
 refine⟨λi=>Bool.eq_iff_iff.mpr (Iff.trans ⟨w.r i,key⟩ Yn.symm),λ⟨p,r,hr,h1,h2⟩=>absurd ((dn (key hr)).2 r h1) (Nat.not_le_of_lt h2)⟩
theorem Zzp{n:Nat}:List.replicate n MV.none=dl n (λ_=>false) h:=((List.map_const' (l:=List.range n) (b:=MV.none)).trans (congrArg (List.replicate · _) List.length_range)).symm
theorem ZMv{n:Nat}{f g:Nat->Bool}(e:∀i,f i=g i):dl n f h=dl n g h:=funext e▸rfl
end
section
variable{c:Cd}{p:Nat}{h:Nat->Nat}
theorem Zww(o:Op):Ym .In o.m (.f (.tup [.str "getl",.str "setl"]))=some ([Op.getl,.setl].contains o):=Zlr o [.getl,.setl]
theorem ZCb{o:Op}(h:[Op.getl,.setl].contains o=true):o=.getl\/o=.setl:=by
 rw[List.contains_cons,Bool.or_eq_true,List.contains_cons,Bool.or_eq_true,beq_iff_eq,beq_iff_eq]at h
 exact h.imp id λe=>e.resolve_right nofun
theorem ZLm{l:List MV}(h:l≠[]):PyData.eqv (.int l.length) (.int 0)=false:=by
 unfold PyData.eqv
 cases l with
 |nil=>exact absurd rfl h
 |cons a l=>exact beq_eq_false_iff_ne.mpr nofun
theorem ZPy{N:Nat}{E:Prop}{K:OV->List (Option OV)->Prop}(hc:Hc c h)(hK:¬Low c h->K (.f .none) [some (rc c (dl c.rows.length c.live h) [])])(hE:Low c h->E):CallP (N+5) E 407 [rc c (List.replicate c.rows.length .none) []] K:=.of ZWr _ rfl (by
 refine Za (Zqv "method" ["method","block","class","program"]) ?_
 conv=>whnf
 refine Yz (ZLm λe=>hc.ok.sne (List.map_eq_nil_iff.mp e)) ?_
 refine ForP.st c.rows.zipIdx (λx=>.tup [nat x.2,x.1.m]) (λ_=>[some (rc c (List.replicate c.rows.length .none) []),none,none,none]) (congrArg (·,_) Zay) (λk hk R Q hQ=>?_) ?_
 .have hf:=hc.frm _ (List.mem_of_getElem? (Zce (List.getElem_mem hk)))
  generalize c.rows.zipIdx[k]=x at hf
  obtain⟨r,i⟩:=x
  refine(ZJw (p:=i) hf).h ?_
  conv=>whnf
  refine Za (Zww r.op) (Zq (λe=>?_) λe=>?_)
  .have:=hf.s (ZCb e)
   exact(ZCq (p:=i) this.1 this.2).h ((ZJu (p:=i) (r:=r)).h hQ)
  .exact(ZJu (p:=i) (r:=r)).h hQ
 .refine(Zpy hc.cat).h ?_
  refine ForP.ex c.starts nat (λk σ=>∃s,Wb c h (λ_=>False) s/\s.2.length<=k/\Ms c s<=c.rows.length/\(∀q∈c.starts.take k,s.1 q=true)/\σ=[some (rcs c h s),none,none,none]) id _ rfl ⟨(λ_=>false,[]),⟨nofun,nofun,nofun⟩,Nat.le_refl 0,Nat.le_trans (Nat.le_of_eq (Nat.zero_add _)) Zci,nofun,by rw[Zzp (h:=h)];rfl⟩ (λk hk σ z R H=>?_) λσ z=>?_
  .obtain⟨s,hw,hsk,hms,hst,e⟩:=z
   subst e
   have hm:=List.getElem_mem hk
   have hl:=hc.ok.sta _ hm
   refine(Qr (s:=s) (p:=c.starts[k]) hl (Nat.le_trans hsk (Nat.le_trans (Nat.le_of_lt hk) (Nat.le_trans hc.ok.sln (by decide)))) (congrArg Nat.cast (hc.st _ hm).symm)).h ?_
   refine H _ ⟨rch s c.starts[k],hw.go (.start hm),Zbo hsk,ZAe hl▸hms,λq hq=>?_,rfl⟩
   rw[List.take_succ_eq_append_getElem hk]at hq
   exact Ziu.mpr ((Zcd hq).imp (hst q) id)
  .obtain⟨s,hw,hsk,hms,hst,e⟩:=z
   subst e
   rw[List.take_length]at hst
   refine WhileP.ex (λk σ=>∃f ws,Wb c h (λ_=>False) (f,ws)/\Ms c (f,ws)<=k/\k<=60/\(∀q∈c.starts,f q=true)/\σ=[some (rcs c h (f,ws)),none,none,none]) id _ 60 (by decide) rfl ⟨s.1,s.2,hw,Nat.le_trans hms hc.ok.len,Nat.le_refl _,hst,rfl⟩ λk σ z R H=>?_
   obtain⟨f,ws,hw,hk,hk6,hst,e⟩:=z
   subst e
   rcases List.eq_nil_or_concat ws with rfl|⟨ws,p,rfl⟩
   .obtain⟨d1,d2⟩:=hw.done hst
    rw[<- ZMv d1]at hK
    exact hK d2
   .rw[List.concat_eq_append]at hw hk⊢
    have hpf:f p=true:=hw.w p (List.mem_append_right _ (List.mem_singleton.mpr rfl))
    have hpr:=hw.r p hpf
    have hpl:=hpr.lt hc.ok
    have hk1:Ms c (f,ws)+1<=k:=Nat.le_trans (Nat.le_of_eq ((Nat.add_right_comm ..).trans (congrArg (·+_) (List.length_append (as:=ws) (bs:=[p])).symm))) hk
    refine Zv (decide_eq_true (Int.ofNat_lt.mpr (show 0 < _ by rw[List.length_map,List.length_append];exact Nat.succ_pos _))) ?_
    cases k with
    |zero=>exact absurd hk1 (Nat.not_succ_le_zero _)
    |succ k=>
     have hk1:=Nat.le_of_succ_le_succ hk1
     refine⟨k,rfl,?_⟩
     conv=>whnf
     rw[<- Yv]
     refine Za List.getLast?_concat ?_
     rw[List.dropLast_concat]
     conv=>whnf
     refine ZJt (s:=(f,ws)) hc.ok hpl (hc.at_ p hpl hpr) hpf ?_ (λq=>?_) λe=>hE ⟨p,_,hpr,List.getElem?_eq_getElem hpl,e⟩
     .exact Nat.le_trans (Nat.le_add_right ..) (Nat.le_trans hk1 (Nat.le_trans (Nat.le_of_succ_le hk6) (by decide)))
     .refine H k _ ⟨_,_,hw.step λr e=>?_,?_,Nat.le_of_succ_le hk6,λq hq=>Zhr (hst q hq),rfl⟩
      .rw[List.getElem?_eq_getElem hpl]at e
       cases e;exact q
      .exact Nat.le_trans (Nat.le_of_eq (ZDy (s:=(f,ws)) λq hq=>Zbj hc.ok hq)) hk1)
end
section
variable{c:Cd}{h:Nat->Nat}
theorem ZCy{N:Nat}{E:Prop}{K:OV->List (Option OV)->Prop}(hc:Hc c h)(hK:¬Low c h->K (.f (.lst (dl c.rows.length c.live h))) [none,none])(hE:Low c h->E):CallP (N+6) E 421 [.f c.m] K:=.of ZWq _ rfl (by
 refine(ZXm (c:=c) (Nat.le_of_lt hc.ok.lt)).h (N:=N+4) ?_
 conv=>whnf
 refine CompP.emp ?_
 conv=>whnf
 refine ZPy hc (λq=>?_) hE
 refine ForP.st ([]:List Nat) nat (λ_=>[some (.f c.m),some (.f (.tup [])),some (rc c (dl c.rows.length c.live h) []),none]) rfl nofun (hK q))
end
structure Bx where
 g:Int
 s:Int
 k:Int
 b:Bool
noncomputable def Bx.o(x:Bx):OV:=.l [.int x.g,.int x.s,.int x.k,.bool x.b]
structure Bx.ok(x:Bx)(n:Nat)(b:Bool):Prop where
 g:0<=x.g
 s:0<=x.s/\x.s < 2147483629
 k:0<=x.k/\x.k<=n
 b:x.b=b
theorem Bx.ok.mono{x:Bx}{n m:Nat}{b:Bool}(h:x.ok n b)(hm:n<=m):x.ok m b:=⟨h.g,h.s,⟨h.k.1,Int.le_trans h.k.2 (Int.ofNat_le.mpr hm)⟩,h.b⟩
theorem ZDw{x y:Int}(h:y.natAbs < 2 ^ 60):Zcs .Mult (.int x) (.int y)=some (.f (.int (x*y))):=if_pos (.inr h)
theorem ZKd{x:Int}(n:Nat)(hn:n<=100)(hx:x.natAbs < 2 ^ 64):Zcs .Pow (.int x) (.int n)=some (.f (.int (x ^ n))):=if_pos ⟨Int.natCast_nonneg n,Int.ofNat_le.mpr hn,hx⟩
theorem Zxo(x:Int){n:Nat}(h:0 < n):∃q:Nat,Int.fmod x n=q/\q < n:=by
 rw[Int.fmod_eq_emod_of_nonneg _ (Int.natCast_nonneg n)]
 have h1:=Int.emod_nonneg x (Int.ofNat_ne_zero.mpr (Nat.ne_of_gt h))
 obtain⟨q,hq⟩:=Int.eq_ofNat_of_zero_le h1
 exact⟨q,hq,Int.ofNat_lt.mp (hq▸Int.emod_lt_of_pos x (Int.ofNat_lt.mpr h))⟩
theorem ZLd(x:Int){n:Nat}(h:0 < n):∃q:Nat,q < n/\Zcs .Mod (.int x) (nat n)=some (.f (nat q)):=by
 obtain⟨q,h1,h2⟩:=Zxo x h
 exact⟨q,h2,(if_neg (Int.ofNat_ne_zero.mpr (Nat.ne_of_gt h))).trans (by rw[h1];rfl)⟩
theorem ZSl{is:List Int}:cut none (some 24) (is.map MV.int)=(is.take 24).map .int:=by
 show((is.map MV.int).take (min 24 (is.map MV.int).length)).drop 0=_
 rw[List.drop_zero,<- List.take_eq_take_min,List.map_take]
theorem Yt{a b:Int}:Ym .Eq (.int a) (.f (.int b))=some (a==b):=congrArg some (by unfold PyData.eqv;rfl:PyData.eqv (.int a) (.int b)=(a==b))
noncomputable abbrev bxS(is:List Int)(g s:Int):Sg:=[some (.f (.lst (is.map .int))),some (.f (.int g)),some (.f (.int s)),none]
theorem ZQe{is:List Int}{N:Nat}{E:Prop}{K:OV->List (Option OV)->Prop}(H:∀x b,Bx.ok x 0 b->K x.o [none]):CallP (N+1) E 570 [.f (.lst (is.map .int))] K:=.of ZWd _ rfl (by
 refine ForP.ex (is.take 24) .int (λk σ=>∃g s:Int,0<=g/\(0<=s/\s < 2147483629)/\σ=bxS is g s) id _ (congrArg (·,_) ZSl) ⟨0,33023,by decide,by decide,rfl⟩ (λk hk σ z R H=>?_) λσ z=>?_
 .obtain⟨g,s,hg,hs,e⟩:=z
  subst e
  generalize (is.take 24)[k]=z
  have go:∀g',0<=g'->R (bxS is g' (Int.fmod (s*48271+z) 2147483629)):=λg' h=>H _ ⟨g',_,h,⟨Int.fmod_nonneg_of_pos _ (by decide),Int.fmod_lt_of_pos _ (by decide)⟩,rfl⟩
  conv=>whnf
  refine Za Yt (Zq (λ_=>?_) λ_=>Za (ZDw (by decide)) (go g hg))
  conv=>whnf
  refine Zq (λ_=>?_) λ_=>Za (ZDw (by decide)) (go g hg)
  exact Za (ZDw (by decide)) (go _ (Int.fmod_nonneg_of_pos _ (by decide)))
 .obtain⟨g,s,hg,hs,e⟩:=z
  subst e
  have key:∀b:Bool,K (Bx.o ⟨g,s,0,b⟩) [none]:=λb=>H _ b ⟨hg,hs,⟨Int.le_refl 0,Int.le_refl 0⟩,rfl⟩
  rcases is with _|⟨a,_|⟨a2,l⟩⟩ <;> exact key _)
theorem nal{x:Int}(h0:0<=x)(h:x < 2 ^ 64):x.natAbs < 2 ^ 64:=Int.ofNat_lt.mp (by rw[Int.natAbs_of_nonneg h0];exact h)
theorem ZSi{x:Int}(hx:0<=x){n:Nat}(h:0 < n)(h2:n<=1000):∃q:Int,0<=q/\Zcs .FloorDiv (.int x) (nat n)=some (.f (.int q)):=
 ⟨_,Int.fdiv_nonneg hx (Int.natCast_nonneg n),if_neg λe=>e.elim (Int.ofNat_ne_zero.mpr (Nat.ne_of_gt h)) (Nat.not_le_of_lt (Nat.lt_of_le_of_lt h2 (by decide)))⟩
theorem Jk{x:Bx}{n M N:Nat}{b:Bool}{E:Prop}{K:OV->List (Option OV)->Prop}(hx:x.ok M b)(hM:M<=1000)(hn:0 < n)(hn2:n<=1000)(H:∀d y,d < n->Bx.ok y (M+1) b->K (.f (nat d)) [some y.o,none]):CallP (N+1) E 577 [x.o,.f (nat n)] K:=.of ZWc _ rfl (by
 obtain⟨g,s,k,bb⟩:=x
 obtain⟨hg,hs,hk,rfl⟩:=hx
 have hk1:0<=k+1/\k+1<=((M+1:Nat):Int):=⟨Int.add_nonneg hk.1 (by decide),Int.add_le_add_right hk.2 1⟩
 refine Zq (λ_=>?_) λ_=>?_
 .obtain⟨d,hd,e1⟩:=ZLd g hn
  obtain⟨g',hg',e2⟩:=ZSi hg hn hn2
  refine Za e1 ?_
  refine Za e2 ?_
  exact H d ⟨g',s,k,bb⟩ hd ⟨hg',hs,⟨hk.1,Int.le_trans hk.2 (Int.ofNat_le.mpr (Nat.le_succ M))⟩,rfl⟩
 .have hM:((M+1:Nat):Int)<=1001:=Int.ofNat_le.mpr (Nat.succ_le_succ hM)
  conv=>whnf
  generalize k+1=k' at hk1
  refine Za (ZKd 5 (by decide) (nal (Int.add_nonneg (Int.add_nonneg hs.1 (Int.mul_nonneg (by decide) hk1.1)) (by decide)) (Int.lt_of_lt_of_le (Int.add_lt_add_right (Int.add_lt_add_of_lt_of_le hs.2 (Int.mul_le_mul_of_nonneg_left (Int.le_trans hk1.2 hM) (by decide))) 7) (by decide)))) ?_
  conv=>whnf
  generalize (s+40169*k'+7)^ 5=y
  have h1:=Int.fmod_nonneg_of_pos y (b:=2147483647) (by decide)
  have h2:=Int.fmod_lt_of_pos y (b:=2147483647) (by decide)
  generalize Int.fmod y 2147483647=y at h1 h2
  refine Za (ZKd 3 (by decide) (nal (Int.add_nonneg h1 (Int.mul_nonneg (by decide) hk1.1)) (Int.lt_of_lt_of_le (Int.add_lt_add_of_lt_of_le h2 (Int.mul_le_mul_of_nonneg_left (Int.le_trans hk1.2 hM) (by decide))) (by decide)))) ?_
  conv=>whnf
  generalize Int.fdiv _ _=z
  obtain⟨d,hd,e1⟩:=ZLd z hn
  exact Za e1 (H d ⟨g,s,k',bb⟩ hd ⟨hg,hs,hk1,rfl⟩))
theorem Jz{x:Bx}{l:List MV}{M N:Nat}{b:Bool}{E:Prop}{K:OV->List (Option OV)->Prop}(hx:x.ok M b)(hM:M<=1000)(hn:0 < l.length)(hn2:l.length<=1000)(H:∀d y,d∈l->Bx.ok y (M+1) b->K (.f d) [some y.o,none]):CallP (N+2) E 584 [x.o,.f (.lst l)] K:=.of ZWb _ rfl (by
 refine Jk hx hM hn hn2 λd y hd hy=>?_
 exact Za (Znl (List.getElem?_eq_getElem hd)) (H _ y (List.getElem_mem hd) hy))
section
structure Ld where
 op:Op
 a:MV
 b:MV
noncomputable def Ld.m(d:Ld):MV:=.tup [d.op.m,d.a,d.b]
noncomputable def Xn:MV->Bool
 | .str s=>s==Str.ofString "Seam"
 |_=>false
noncomputable def sml:MV->Bool
 | .str s=>["s","t","u","E","@x","$x","C"].any λx=>s==Str.ofString x
 | .int i=>i==0||i==5
 | .none=>true
 | .bool _=>true
 |_=>false
theorem Zvn(s:String)(h:["s","t","u","E","@x","$x","C"].contains s=true):sml (.str (Str.ofString s))=true:=
 List.any_eq_true.mpr ⟨s,List.contains_iff_mem.mp h,beq_self_eq_true _⟩
noncomputable def Ld.good(d:Ld):Prop:=(d.op.isJ=false->(⟨d.op,d.a,d.b,0⟩:Rw).frm 0/\Jf d.a/\Jf d.b/\sml d.a=true)/\(d.op.isJ=true->d.b=.none/\(d.a=.none\/∃k,d.a=nat k))
noncomputable def ZBg(l:List String)(a b:MV):Prop:=match l with
 | []=>a=.none/\b=.none
 |x::l=>ZHx x a/\(match l with| []=>b=.none|y::l=>ZHx y b/\l=[])
theorem Zmc{l:List String}{r:Rw}(h:ZBg l r.a r.b):(∀i,i < l.length->ZHx (l.getD i "") (r.opd i))/\∀i,l.length<=i->i < 2->r.opd i=.none:=by
 rcases l with _|⟨x,_|⟨y,l⟩⟩
 .exact⟨λi q=>absurd q (Nat.not_lt_zero _),λi _=>two (P:=λi=>r.opd i=.none) h.1 h.2⟩
 .exact⟨λi hi=>by cases Nat.lt_one_iff.mp hi;exact h.1,λi h1 hi=>by cases Nat.le_antisymm h1 (Nat.le_of_lt_succ hi);exact h.2⟩
 .obtain⟨h1,h2,rfl⟩:=h
  exact⟨λi=>two (P:=λi=>ZHx ([x,y].getD i "") (r.opd i)) h1 h2,λi h1 hi=>absurd h1 (Nat.not_le_of_lt hi)⟩
theorem ZRz{r:Rw}(hj:r.op.isJ=false)(h:ZBg (lts r.op) r.a r.b)(s:r.op=.getl\/r.op=.setl->r.a=.int 0/\r.b=.int 1):r.frm 0:=⟨(Zmc h).1,(Zmc h).2,λe=>absurd (hj.symm.trans e) Bool.false_ne_true,s⟩
theorem Zsg{d:Ld}(hj:d.op.isJ=false)(h:ZBg (lts d.op) d.a d.b)(s:d.op=.getl\/d.op=.setl->d.a=.int 0/\d.b=.int 1)(p1:Jf d.a)(p2:Jf d.b)(sm:sml d.a=true):d.good:=
 ⟨λ_=>⟨ZRz (r:=⟨d.op,d.a,d.b,0⟩) hj h s,p1,p2,sm⟩,λe=>absurd (hj.symm.trans e) Bool.false_ne_true⟩
theorem nsl{o:Op}{P:Prop}(h:(o==.getl||o==.setl)=false):o=.getl\/o=.setl->P:=λe=>absurd h (by rcases e with e|e <;> rw[e] <;> decide)
theorem Qe{o:Op}(hj:o.isJ=false)(h:lts o=[])(hs:(o==.getl||o==.setl)=false):(⟨o,.none,.none⟩:Ld).good:=Zsg hj (show ZBg (lts o) .none .none from h▸⟨rfl,rfl⟩) (nsl hs) trivial trivial rfl
theorem Ud{o:Op}{x:String}(s:String)(hj:o.isJ=false)(h:lts o=[x])(hx:["n","t"].contains x=true)(hs:(o==.getl||o==.setl)=false)(hm:["s","t","u","E","@x","$x","C"].contains s=true):(⟨o,.str (Str.ofString s),.none⟩:Ld).good:=Zsg hj (show ZBg (lts o) _ .none from h▸⟨.inl ⟨hx,_,rfl⟩,rfl⟩) (nsl hs) (sok s) trivial (Zvn s hm)
theorem ZAs{o:Op}(hj:o.isJ=false)(h:lts o=["c","c"]):(⟨o,.int 0,.int 1⟩:Ld).good:=Zsg hj (show ZBg (lts o) (.int 0) (.int 1)from h▸⟨.inr (.inl ⟨⟨rfl,rfl⟩,0,rfl,by decide⟩),.inr (.inl ⟨⟨rfl,rfl⟩,1,rfl,by decide⟩),rfl⟩) (λ_=>⟨rfl,rfl⟩) trivial trivial rfl
noncomputable def PutD(x:Nat)(d:Ld):Prop:=d.good/\d.op.isJ=false/\d.op.isEnd=false/\d.op.tk<=x/\d.op.pt=d.op.tk+1
noncomputable def AwayD(d:Ld):Prop:=d.good/\d.op.isJ=false/\d.op.isEnd=false/\d.op.tk=1/\d.op.pt=0
theorem fmN{α:Type}{P:α->Prop}:∀x∈([]:List α),P x:=λ_ h=>(List.not_mem_nil h).elim
theorem fm{α:Type}{P:α->Prop}{a:α}{l:List α}(h:P a)(r:∀x∈l,P x):∀x∈a::l,P x:=List.forall_mem_cons.mpr ⟨h,r⟩
theorem Zed{v:MV}(h:Jf v)(s:sml v=true):(⟨.push,v,.none⟩:Ld).good:=Zsg rfl ⟨.inr (.inr rfl),rfl⟩ (nsl rfl) h trivial s
theorem Zqd:∀v∈[MV.bool true,.none,.bool false,.int 0,.str (Str.ofString "s")],(⟨.push,v,.none⟩:Ld).good:=
 fm (Zed trivial rfl) (fm (Zed trivial rfl) (fm (Zed trivial rfl) (fm (Zed trivial rfl) (fm (Zed (sok _) (Zvn "s" rfl)) fmN))))
theorem Zua:∀v∈([⟨.pop,.none,.none⟩,⟨.setl,.int 0,.int 1⟩,⟨.seti,.str (Str.ofString "@x"),.none⟩,⟨.setg,.str (Str.ofString "$x"),.none⟩,⟨.setc,.str (Str.ofString "C"),.none⟩]:List Ld),AwayD v:=
 fm ⟨Qe rfl rfl rfl,rfl,rfl,rfl,rfl⟩ (fm ⟨ZAs rfl rfl,rfl,rfl,rfl,rfl⟩ (fm ⟨Ud "@x" rfl rfl rfl rfl rfl,rfl,rfl,rfl,rfl⟩ (fm ⟨Ud "$x" rfl rfl rfl rfl rfl,rfl,rfl,rfl,rfl⟩ (fm ⟨Ud "C" rfl rfl rfl rfl rfl,rfl,rfl,rfl,rfl⟩ fmN))))
variable{M N x:Nat}{b:Bool}{y:Bx}{E:Prop}{K:OV->List (Option OV)->Prop}
theorem Zew(hx:y.ok M b)(hM:M<=1000)(H:∀d y,PutD 0 d->d.op=.push->Bx.ok y (M+1) b->K (.f d.m) [some y.o]):CallP (N+3) E 591 [y.o] K:=.of ZWa _ rfl (by
 refine Jz hx hM (by decide) (by decide) λd y hd hy=>?_
 exact H ⟨.push,d,.none⟩ y ⟨Zqd d hd,rfl,rfl,Nat.le_refl _,rfl⟩ rfl hy)
theorem Zev{l:List Ld}(hx:y.ok M b)(hM:M<=1000)(hn:0 < l.length)(hn2:l.length<=1000)(H:∀d y,d∈l->Bx.ok y (M+1) b->K (.f d.m) [some y.o,none]):CallP (N+2) E 584 [y.o,.f (.lst (l.map Ld.m))] K:=by
 refine Jz hx hM (by rw[List.length_map];exact hn) (by rw[List.length_map];exact hn2) λd y hd hy=>?_
 obtain⟨e,he,rfl⟩:=List.mem_map.mp hd
 exact H e y he hy
theorem Zpz(hx:y.ok M b)(hM:M<=1000)(H:∀d y,AwayD d->Bx.ok y (M+1) b->K (.f d.m) [some y.o]):CallP (N+3) E 605 [y.o] K:=.of ZVy _ rfl (by
 refine Zev (l:=[⟨.pop,.none,.none⟩,⟨.setl,.int 0,.int 1⟩,⟨.seti,.str (Str.ofString "@x"),.none⟩,⟨.setg,.str (Str.ofString "$x"),.none⟩,⟨.setc,.str (Str.ofString "C"),.none⟩]) hx hM (by decide) (by decide) λd y hd hy=>?_
 exact H d y (Zua d hd) hy)
end
section
variable{M N x:Nat}{b:Bool}{y:Bx}{E:Prop}{K:OV->List (Option OV)->Prop}{o:Op}
noncomputable def pa:Op->MV
 | .getl=>.int 0| .geti=>.str (Str.ofString "@x")| .getg=>.str (Str.ofString "$x")|_=>.none
noncomputable def pb(o:Op):MV:=if o==.getl then .int 1 else .none
theorem ZKj(o:Op)(x:Option MV)(h:Zhx (Str.ofString o.n) [(.str "getl",.int 0),(.str "geti",.str "@x"),(.str "getg",.str "$x")]=x):x.getD .none=pa o:=by cases o <;> exact h▸rfl
noncomputable def putL:List Op:=[.push,.self,.getl,.geti,.getg,.blockgiven]
theorem Zzw:∀o∈putL,(o==.push)=false->PutD x ⟨o,pa o,pb o⟩:=
 fm (λe=>by cases e) (fm (λ_=>⟨Qe rfl rfl rfl,rfl,rfl,Nat.zero_le _,rfl⟩) (fm (λ_=>⟨ZAs rfl rfl,rfl,rfl,Nat.zero_le _,rfl⟩) (fm (λ_=>⟨Ud "@x" rfl rfl rfl rfl rfl,rfl,rfl,Nat.zero_le _,rfl⟩) (fm (λ_=>⟨Ud "$x" rfl rfl rfl rfl rfl,rfl,rfl,Nat.zero_le _,rfl⟩) (fm (λ_=>⟨Qe rfl rfl rfl,rfl,rfl,Nat.zero_le _,rfl⟩) fmN)))))
theorem ZDb(h:1<=x):PutD x ⟨.dup,pa .dup,pb .dup⟩:=⟨Qe rfl rfl rfl,rfl,rfl,h,rfl⟩
theorem PutD.z{d:Ld}(h:PutD 0 d):PutD x d:=⟨h.1,h.2.1,h.2.2.1,Nat.le_trans h.2.2.2.1 (Nat.zero_le _),h.2.2.2.2⟩
theorem Zku(hy:y.ok (M+1) b)(hM:M<=990)(ho:(o==.push)=false->PutD x ⟨o,pa o,pb o⟩)(H:∀d y,PutD x d->Bx.ok y (M+2) b->K (.f d.m) [some y.o,none]):
  (mg (N+3) (cl [.ifs (.cmp (v 2) (.c1 .Eq (ks "push"))) (cl [.ret (.fn 591 (.lend 0 .nil))]) .nil,.ret (.tup (cl [v 2,.lit [((.str "getl"),(.int 0)),((.str "geti"),(.str "@x")),((.str "getg"),(.str "$x"))] (cl [v 2]),.ife (.cmp (v 2) (.c1 .Eq (ks "getl"))) (ki 1) (.k .none)]))])).s E [some y.o,some (.f (nat x)),some (.f o.m)] (Zgd [TP2.l,TP2.f] K):=by
 refine Za (Zhu o .push) (Zq (λ_=>?_) λe=>?_)
 .exact Zew hy (Nat.succ_le_of_lt (Nat.lt_of_le_of_lt hM (by decide))) λd y hd _ hy=>H d y hd.z hy
 .have q:=H ⟨o,pa o,pb o⟩ y (ho e) (hy.mono (Nat.le_succ _))
  unfold pb at q
  conv=>whnf
  generalize hx:Zhx (Str.ofString o.n) _=x
  rw[<- ZKj o x hx]at q
  refine Za (Zhu o .getl) ?_
  cases e:o==.getl <;> (rw[e]at q;exact q)
theorem Zeu(hx:y.ok M b)(hM:M<=990)(H:∀d y,PutD x d->Bx.ok y (M+2) b->K (.f d.m) [some y.o,none]):CallP (N+4) E 598 [y.o,.f (nat x)] K:=.of ZVz _ rfl (by
 have hM':M<=1000:=Nat.le_trans hM (by decide)
 conv=>whnf
 cases hd:decide ((x:Int)> 0)
 .conv=>whnf
  refine Jz (l:=putL.map Op.m) hx hM' (by decide) (by decide) λd y hd hy=>?_
  obtain⟨o,ho,rfl⟩:=List.mem_map.mp hd
  exact Zku hy hM (Zzw o ho) H
 .conv=>whnf
  refine Jz (l:=(putL++[Op.dup]).map Op.m) hx hM' (by decide) (by decide) λd y hd' hy=>?_
  obtain⟨o,ho,rfl⟩:=List.mem_map.mp hd'
  refine Zku hy hM ((List.mem_append.mp ho).elim (Zzw o) λe=>?_) H
  rw[List.mem_singleton.mp e]
  exactλ_=>ZDb (Int.ofNat_lt.mp (of_decide_eq_true hd)))
noncomputable def BrD(g:MV)(d:Ld):Prop:=d=⟨.jumpif,g,.none⟩\/d=⟨.jumpunless,g,.none⟩
theorem Qu{g:MV}(hx:y.ok M b)(hM:M<=1000)(H:∀d y,BrD g d->Bx.ok y (M+1) b->K (.f d.m) [some y.o,none]):CallP (N+3) E 612 [y.o,.f g] K:=.of ZVx _ rfl (by
 refine Jz (l:=Xe.map Op.m) hx hM (by decide) (by decide) λd y hd hy=>?_
 obtain⟨o,ho,rfl⟩:=List.mem_map.mp hd
 exact H ⟨o,g,.none⟩ y ((List.mem_cons.mp (show o∈[Op.jumpif,.jumpunless]from ho)).imp (λe=>by rw[e]) λe=>by rw[List.mem_singleton.mp e]) hy)
noncomputable def OneD(x:Nat)(d:Ld):Prop:=d.good/\d.op.tk<=x/\(d.op.isJ=true->d.a=.none)/\d.op≠.append
theorem Qj{d:Ld}(h:d.good)(hj:d.op.isJ=false)(ht:d.op.tk<=x)(ha:(d.op==.append)=false):OneD x d:=⟨h,ht,λe=>absurd (hj.symm.trans e) Bool.false_ne_true,λe=>absurd ha (by rw[e];decide)⟩
theorem ZDr{o:Op}{n:Nat}(h:o.pt=n)(hn:n≠o.tk - 1):(o==.append)=false:=by
 cases o <;> first|rfl|exact absurd h.symm hn
theorem PutD.one{d:Ld}(h:PutD x d):OneD x d:=Qj h.1 h.2.1 h.2.2.2.1 (ZDr h.2.2.2.2 (Nat.ne_of_gt (Nat.lt_succ_of_le (Nat.sub_le d.op.tk 1))))
theorem AwayD.one{d:Ld}(h:AwayD d)(hx:1<=x):OneD x d:=Qj h.1 h.2.1 (h.2.2.2.1▸hx) (beq_eq_false_iff_ne.mpr λe=>by have:=h.2.2.2.2;rw[e]at this;cases this)
theorem Zrt{o:Op}(h:o.isJ=true):(⟨o,.none,.none⟩:Ld).good:=⟨λe=>absurd (h.symm.trans e) Bool.noConfusion,λ_=>⟨rfl,.inl rfl⟩⟩
theorem Zdz{o:Op}{k:Nat}(h:o.isJ=true):(⟨o,nat k,.none⟩:Ld).good:=⟨λe=>absurd (h.symm.trans e) Bool.noConfusion,λ_=>⟨rfl,.inr ⟨k,rfl⟩⟩⟩
theorem Znc{o:Op}(h:o.isJ=true)(ht:o.tk<=x):OneD x ⟨o,.none,.none⟩:=⟨Zrt h,ht,λ_=>rfl,λe=>by dsimp only at e;rw[e]at h;cases h⟩
theorem BrD.one{d:Ld}(h:BrD .none d)(hx:1<=x):OneD x d:=by rcases h with rfl|rfl <;> exact Znc rfl hx
end
section
variable{M N x:Nat}{b:Bool}{y:Bx}{E:Prop}{K:OV->List (Option OV)->Prop}
theorem Zht{s:String}(t:String)(hs:sml (.str (Str.ofString s))=true):(⟨.fail,.str (Str.ofString s),.str (Str.ofString t)⟩:Ld).good:=Zsg rfl ⟨.inl ⟨rfl,_,rfl⟩,.inl ⟨rfl,_,rfl⟩,rfl⟩ (nsl rfl) (sok _) (sok _) hs
noncomputable abbrev ZOy(d:Ld):List Ld:=[⟨.jump,.none,.none⟩,⟨.text,.str (Str.ofString "t"),.none⟩,⟨.undef,.str (Str.ofString "u"),.none⟩,⟨.fail,.str (Str.ofString "E"),.str (Str.ofString "t")⟩,d]
theorem Zle{d:Ld}(h:OneD x d):∀e∈ZOy d,OneD x e:=
 fm (Znc rfl (Nat.zero_le _)) (fm (Qj (Ud "t" rfl rfl rfl rfl rfl) rfl (Nat.zero_le _) rfl) (fm (Qj (Ud "u" rfl rfl rfl rfl rfl) rfl (Nat.zero_le _) rfl) (fm (Qj (Zht "t" (Zvn "E" rfl)) rfl (Nat.zero_le _) rfl) (fm h fmN))))
theorem Zwf{d e:Ld}(hx:1<=x)(h:OneD x d)(k:OneD x e):∀f∈[d,⟨.jumpnil,.none,.none⟩,e,⟨.leave,.none,.none⟩],OneD x f:=fm h (fm (Znc rfl hx) (fm k (fm (Qj (Qe rfl rfl rfl) rfl hx rfl) fmN)))
theorem Zau(h:2<=x):OneD x ⟨.swap,.none,.none⟩:=Qj (Qe rfl rfl rfl) rfl h rfl
theorem Zrd{α:Type}{P:α->Prop}{l k:List α}(h:∀x∈l,P x)(r:∀x∈k,P x):∀x∈l++k,P x:=λx hx=>(List.mem_append.mp hx).elim (h x) (r x)
theorem ZPz(hx:y.ok M b)(hM:M<=980)(H:∀d y,OneD x d->Bx.ok y (M+5) b->K (.f d.m) [some y.o,none]):CallP (N+5) E 619 [y.o,.f (nat x)] K:=.of ZVw _ rfl (by
 have hm:∀{k},k<=10->M+k<=990:=λh=>Nat.add_le_add hM h
 have hm':∀{k},k<=10->M+k<=1000:=λh=>Nat.le_trans (hm h) (by decide)
 refine Zeu hx (hm (Nat.zero_le _)) λd z hd hz=>?_
 replace hd:=hd.one
 conv=>whnf
 cases h0:decide ((x:Int)> 0)
 .have n1:decide ((x:Int)> 1)=false:=decide_eq_false λe=>of_decide_eq_false h0 (Int.lt_trans (by decide) e)
  conv=>whnf
  rw[n1]
  exact Zev (l:=ZOy d) hz (hm' (by decide)) (Nat.succ_pos _) (Nat.le_of_ble_eq_true rfl) λd y hd' hy=>H d y (Zle hd d hd') (hy.mono (by omega))
 .have x0:1<=x:=Int.ofNat_lt.mp (of_decide_eq_true h0)
  conv=>whnf
  refine Qu (g:=.none) hz (hm' (k:=2) (by decide)) λe z he hz=>?_
  conv=>whnf
  refine Zpz hz (hm' (k:=3) (by decide)) λf z hf hz=>?_
  have L:=Zrd (Zle hd) (Zwf x0 (he.one x0) (hf.one x0))
  conv=>whnf
  cases h1:decide ((x:Int)> 1)
  .exact Zev (l:=ZOy d++[e,⟨.jumpnil,.none,.none⟩,f,⟨.leave,.none,.none⟩]) hz (hm' (k:=4) (by decide)) (Nat.succ_pos _) (Nat.le_of_ble_eq_true rfl) λd y hd' hy=>H d y (L d hd') hy
  .have x1:2<=x:=Int.ofNat_lt.mp (of_decide_eq_true h1)
   conv=>whnf
   exact Zev (l:=(ZOy d++[e,⟨.jumpnil,.none,.none⟩,f,⟨.leave,.none,.none⟩])++[(⟨.swap,.none,.none⟩:Ld)]) hz (hm' (k:=4) (by decide)) (Nat.succ_pos 9) (Nat.le_of_ble_eq_true rfl) λd y hd' hy=>H d y (Zrd L (fm (Zau x1) (λ_ h=>(List.not_mem_nil h).elim)) d hd') hy)
end
section
variable{N x:Nat}{d:Ld}{l pc A:List Ld}
noncomputable def Ld.nx(d:Ld)(x:Nat):Nat:=x+d.op.pt - d.op.tk
noncomputable def Zk(x:Nat)(l:List Ld):Nat:=l.foldl (λx d=>d.nx x) x
noncomputable def hs:Nat->List Ld->List Nat
 |_,[]=>[]
 |x,d::r=>x::hs (d.nx x) r
noncomputable def ZOl(x:Nat)(d:Ld)(r:List Ld):Prop:=d.good/\d.op.tk<=x/\d.op≠.append/\(d.op.isJ=true->d.a=.none\/∃k,d.a=nat k/\1<=k/\k<=r.length+1/\Zk x ((d::r).take k)+d.op.tk=x+d.op.pt)
noncomputable def PcH:Nat->List Ld->Prop
 |_,[]=>True
 |x,d::r=>ZOl x d r/\PcH (d.nx x) r
theorem Xu:Zk x (l++pc)=Zk (Zk x l) pc:=List.foldl_append
theorem Zsd:hs x (l++pc)=hs x l++hs (Zk x l) pc:=by
 induction l generalizing x with
 |nil=>rfl
 |cons d l ih=>exact congrArg (x::·) ih
theorem Uc:(hs x l).length=l.length:=by
 induction l generalizing x with
 |nil=>rfl
 |cons d l ih=>exact congrArg (·+1) ih
theorem PcH.app(h1:PcH x l)(h2:PcH (Zk x l) pc):PcH x (l++pc):=by
 induction l generalizing x with
 |nil=>exact h2
 |cons d l ih=>
  refine⟨⟨h1.1.1,h1.1.2.1,h1.1.2.2.1,λe=>(h1.1.2.2.2 e).imp id (.imp λk z=>⟨z.1,z.2.1,Nat.le_trans z.2.2.1 (Nat.succ_le_succ (by rw[List.append_eq,List.length_append];exact Nat.le_add_right ..)),
   (congrArg (λt=>Zk x t+d.op.tk) (List.take_append_of_le_length (l₁:=d::l) (l₂:=pc) z.2.2.1)).trans z.2.2.2⟩)⟩,ih h1.2 h2⟩
theorem Zcm(s:String)(l:List String):Ym .In (.str (Str.ofString s)) (.l (l.map λx=>.str (Str.ofString x)))=some (l.contains s):=Zcl s l
noncomputable def chg(o:Op):Int:=(o.pt:Int) - o.tk
theorem ZSr{o:Op}(h:o≠.append):chg o=if["pop","leave","setl","seti","setg","setc","jumpif","jumpunless"].contains o.n then -1 else if["swap","jump","jumpnil","fail"].contains o.n then 0 else 1:=by
 cases o <;> first|rfl|exact absurd rfl h
theorem Zkr{o:Op}(h:o≠.append):Ret 1 633 [.f o.m] (.f (.int (chg o))) [none]:=.of ZVu _ rfl λN E K hK=>by
 rw[ZSr h]at hK
 refine Za (Zcm o.n ["pop","leave","setl","seti","setg","setc","jumpif","jumpunless"]) (Zq (λe=>?_) λe=>?_) <;> rw[e]at hK
 .exact hK
 .conv=>whnf
  refine Za (Zcm o.n ["swap","jump","jumpnil","fail"]) ?_
  cases e:["swap","jump","jumpnil","fail"].contains o.n <;> (rw[e]at hK;exact hK)
theorem PcH.at{k:Nat}(h:PcH x l)(hk:k < l.length):l[k].op.tk<=Zk x (l.take k)/\l[k].op≠.append:=by
 induction l generalizing x k with
 |nil=>exact absurd hk (Nat.not_lt_zero k)
 |cons d l ih=>cases k with
  |zero=>exact⟨h.1.2.1,h.1.2.2.1⟩
  |succ k=>exact ih h.2 (Nat.lt_of_succ_lt_succ hk)
theorem ZTw(h:d.op.tk<=x):(x:Int)+chg d.op=(d.nx x:Nat):=by
 unfold Ld.nx chg
 rw[Int.ofNat_sub (Nat.le_trans h (Nat.le_add_right ..)),Int.natCast_add,Int.add_sub_assoc]
noncomputable abbrev laS(A:List Ld)(H:List Nat)(x:Nat)(pc:List Ld)(k:Nat):Sg:=[some (.l ((A++pc.take k).map Ld.m)),some (.l ((H++hs x (pc.take k)).map nat)),some (.f (.lst (pc.map Ld.m))),some (.f (nat (Zk x (pc.take k)))),none]
theorem ZRm{H:List Nat}{k:Nat}(hk:k < pc.length)(ht:pc[k].op.tk<=Zk x (pc.take k)):laS A H x pc (k+1)=[some (.l ((A++pc.take k).map Ld.m++[pc[k].m])),some (.l ((H++hs x (pc.take k)).map nat++[nat (Zk x (pc.take k))])),some (.f (.lst (pc.map Ld.m))),some (.f (.int (Zk x (pc.take k)+chg pc[k].op))),none]:=by
 rw[ZTw ht,laS,List.take_succ_eq_append_getElem hk,Zsd,Xu,<- List.append_assoc,<- List.append_assoc,Yv,Yv];rfl
theorem ZLp{α β:Type}{f:α->β}{a b:List α}(hb:a.length+b.length<=1000):((a++b).map f).length < Zb:=by
 rw[List.length_map,List.length_append]
 exact Nat.lt_of_le_of_lt hb (by decide)
theorem Zzu{H:List Nat}(h:∀k (hk:k < pc.length),pc[k].op.tk<=Zk x (pc.take k)/\pc[k].op≠.append)(hA:A.length+pc.length<=1000)(hH:H.length=A.length):Ret 2 640 [.l (A.map Ld.m),.l (H.map nat),.f (.lst (pc.map Ld.m)),.f (nat x)] (.f (nat (Zk x pc))) [some (.l ((A++pc).map Ld.m)),some (.l ((H++hs x pc).map nat)),none,none]:=.of ZVt _ rfl λN E K hK=>by
 refine ForP.st pc Ld.m (laS A H x pc) (by rw[laS,List.take_zero,hs,List.append_nil,List.append_nil];rfl) (λk hk R Q hQ=>?_) (by rw[laS,List.take_length];exact hK)
 obtain⟨ht,hn⟩:=h k hk
 have hl:(pc.take k).length<=pc.length:=List.length_take_le' _ _
 rw[ZRm hk ht]at hQ
 refine Zv (decide_eq_true (ZLp (Nat.le_trans (Nat.add_le_add_left hl _) hA))) (Zv (decide_eq_true (ZLp (by rw[Uc,hH];exact Nat.le_trans (Nat.add_le_add_left hl _) hA))) ?_)
 conv=>whnf
 refine(Zkr hn).h ?_
 exact hQ
end
section
variable{M N x z w:Nat}{d d2:Ld}{l pc A:List Ld}
theorem OneD.row(h:OneD x d):ZOl x d l:=⟨h.1,h.2.1,h.2.2.2,λe=>.inl (h.2.2.1 e)⟩
theorem PutD.nx(h:PutD x d):d.nx x=x+1:=by unfold Ld.nx;rw[h.2.2.2.2,Nat.add_comm d.op.tk,<- Nat.add_assoc,Nat.add_sub_cancel]
theorem AwayD.nx(h:AwayD d):d.nx x=x - 1:=by unfold Ld.nx;rw[h.2.2.2.2,h.2.2.2.1];rfl
theorem BrD.nx{g:MV}(h:BrD g d):d.nx x=x - 1:=by rcases h with rfl|rfl <;> rfl
theorem BrD.row{k:Nat}(h:BrD (nat k) d)(hx:1<=x)(h1:1<=k)(h2:k<=l.length+1)(h3:Zk x ((d::l).take k)+1=x):ZOl x d l:=by
 rcases h with rfl|rfl <;> exact⟨Zdz rfl,hx,nofun,λ_=>.inr ⟨k,rfl,h1,h2,h3⟩⟩
theorem Zfl{k:Nat}(h1:1<=k)(h2:k<=l.length+1)(h3:Zk x ((⟨.jump,nat k,.none⟩::l).take k)=x):ZOl x ⟨.jump,nat k,.none⟩ l:=⟨Zdz rfl,Nat.zero_le _,nofun,λ_=>.inr ⟨k,rfl,h1,h2,h3⟩⟩
noncomputable def PieceD(x:Nat)(pc:List Ld):Prop:=PcH x pc/\pc≠[]/\pc.length+Zk x pc<=x+6/\pc.length<=4
noncomputable def Ch(x:Nat)(pc:List Ld)(y:Nat):Prop:=PcH x pc/\Zk x pc=y
theorem Ch.nil:Ch x [] x:=⟨trivial,rfl⟩
theorem Ch.cons(h:ZOl x d l)(e:d.nx x=z)(t:Ch z l w):Ch x (d::l) w:=by subst e;exact⟨⟨h,t.1⟩,t.2⟩
theorem PieceD.of{m:Nat}(h:Ch x (d::l) (x+m))(hl:(Nat.ble (l.length+1+m) 6&&Nat.ble (l.length+1) 4)=true):PieceD x (d::l):=
 ⟨h.1,List.cons_ne_nil _ _,by rw[h.2,Nat.add_left_comm];exact Nat.add_le_add_left (Nat.le_of_ble_eq_true (Bool.and_eq_true_iff.mp hl).1) x,Nat.le_of_ble_eq_true (Bool.and_eq_true_iff.mp hl).2⟩
theorem Ziy:OneD (x+1) ⟨.pop,.none,.none⟩:=Qj (Qe rfl rfl rfl) rfl (Nat.succ_le_succ (Nat.zero_le _)) rfl
theorem Zti:OneD (x+1) ⟨.dup,.none,.none⟩:=Qj (Qe rfl rfl rfl) rfl (Nat.succ_le_succ (Nat.zero_le _)) rfl
theorem Zbz:1<=x+1:=Nat.succ_le_succ (Nat.zero_le _)
theorem Zon:2<=x+2:=Nat.le_add_left 2 x
theorem ZVa(h:PutD x d):PieceD x [d,⟨.pop,.none,.none⟩]:=.of (m:=0) (.cons h.one.row h.nx (.cons Ziy.row rfl .nil)) rfl
theorem ZUz(h:PutD x d)(h2:AwayD d2):PieceD x [d,⟨.dup,.none,.none⟩,d2,⟨.pop,.none,.none⟩]:=.of (m:=0) (.cons h.one.row h.nx (.cons Zti.row rfl (.cons (h2.one Zbz).row h2.nx (.cons Ziy.row rfl .nil)))) rfl
theorem ZUy(h:PutD x d)(h2:BrD .none d2):PieceD x [d,d2]:=.of (m:=0) (.cons h.one.row h.nx (.cons (h2.one Zbz).row h2.nx .nil)) rfl
theorem ZUx(h:PutD x d)(h2:BrD (nat 2) d2):PieceD x [d,d2,⟨.jump,.none,.none⟩]:=.of (m:=0) (.cons h.one.row h.nx (.cons (h2.row Zbz (by decide) (Nat.le_refl 2) (congrArg (λy=>Ld.nx ⟨.jump,.none,.none⟩ y+1) h2.nx)) h2.nx (.cons (Znc (o:=.jump) rfl (Nat.zero_le _)).row rfl .nil))) rfl
theorem ZUw:PieceD x [⟨.jump,nat 1,.none⟩]:=.of (m:=0) (.cons (Zfl (Nat.le_refl 1) (Nat.le_refl 1) rfl) rfl .nil) rfl
theorem ZUv(h:PutD x d)(h2:BrD (nat 1) d2):PieceD x [d,d2]:=.of (m:=0) (.cons h.one.row h.nx (.cons (h2.row Zbz (Nat.le_refl 1) (Nat.le_refl 1) (congrArg (·+1) h2.nx)) h2.nx .nil)) rfl
theorem ZUu(h:PutD x d):PieceD x [⟨.jump,nat 3,.none⟩,d,⟨.pop,.none,.none⟩]:=.of (m:=0) (.cons (Zfl (by decide) (Nat.le_refl 3) (congrArg (Ld.nx ⟨.pop,.none,.none⟩) h.nx)) rfl (.cons h.one.row h.nx (.cons Ziy.row rfl .nil))) rfl
theorem PutD.up(h:PutD x d):PutD (x+1) d:=⟨h.1,h.2.1,h.2.2.1,Nat.le_succ_of_le h.2.2.2.1,h.2.2.2.2⟩
theorem ZUt(h:PutD x d)(h2:PutD x d2):PieceD x [d,d2,⟨.swap,.none,.none⟩,⟨.swap,.none,.none⟩]:=.of (m:=2) (.cons h.one.row h.nx (.cons h2.up.one.row h2.up.nx (.cons (Zau Zon).row rfl (.cons (Zau Zon).row rfl .nil)))) rfl
theorem ZUs(h:PutD x d):PieceD x [d,⟨.dup,.none,.none⟩,⟨.swap,.none,.none⟩]:=.of (m:=2) (.cons h.one.row h.nx (.cons Zti.row rfl (.cons (Zau Zon).row rfl .nil))) rfl
theorem ZUr(h:PutD x d)(h2:BrD .none d2):PieceD x [d,⟨.jump,nat 1,.none⟩,d2]:=.of (m:=0) (.cons h.one.row h.nx (.cons (Zfl (Nat.le_refl 1) Zbz rfl) rfl (.cons (h2.one Zbz).row h2.nx .nil))) rfl
theorem ZQg{o:Op}:o.pt<=2:=by cases o <;> decide
theorem ZPi(h:OneD x d):PieceD x [d]:=⟨⟨h.row,trivial⟩,List.cons_ne_nil _ _,Nat.le_trans (Nat.add_le_add_left (Nat.le_trans (Nat.sub_le ..) (Nat.add_le_add_left ZQg x)) 1) (Nat.add_comm 1 (x+2)▸Nat.add_le_add_left (show 3<=6 by decide) x),Nat.le_of_ble_eq_true rfl⟩
variable{b:Bool}{y:Bx}{E:Prop}{K:OV->List (Option OV)->Prop}
theorem Ziw{way:Nat}(hx:y.ok M b)(hM:M<=970)(H:∀pc y,PieceD x pc->Bx.ok y (M+6) b->K (.l (pc.map Ld.m)) [some y.o,none,none]):CallP (N+6) E 626 [y.o,.f (nat x),.f (nat way)] K:=.of ZVv _ rfl (by
 have up:∀{y:Bx} {k},y.ok (M+k) b->k<=6->y.ok (M+6) b:=λh k=>h.mono (Nat.add_le_add_left k M)
 have le:∀k,k<=10->M+k<=980:=λk h=>Nat.add_le_add hM h
 have le2:∀k,k<=10->M+k<=1000:=λk h=>Nat.le_trans (le k h) (by decide)
 have l1:M<=990:=Nat.le_trans hM (by decide)
 have l2:M<=1000:=Nat.le_trans hM (by decide)
 conv=>whnf
 refine Za Yt (Zq (λ_=>?_) λ_=>?_)
 .refine Zeu (x:=x) hx l1 λd1 y p1 g1=>?_
  exact H _ _ (ZVa p1) (up (k:=2) g1 (by decide))
 refine Za Yt (Zq (λ_=>?_) λ_=>?_)
 .refine Zeu (x:=x) hx l1 λd1 y p1 g1=>?_
  refine Zpz g1 (le2 2 (by decide)) λd2 y p2 g2=>?_
  exact H _ _ (ZUz p1 p2) (up (k:=3) g2 (by decide))
 refine Za Yt (Zq (λ_=>?_) λ_=>?_)
 .refine Zew hx l2 λd1 y p1 _ g1=>?_
  refine Qu (g:=.none) g1 (le2 1 (by decide)) λd2 y p2 g2=>?_
  exact H _ _ (ZUy p1.z p2) (up (k:=2) g2 (by decide))
 refine Za Yt (Zq (λ_=>?_) λ_=>?_)
 .refine Zeu (x:=x) hx l1 λd1 y p1 g1=>?_
  refine Qu (g:=nat 2) g1 (le2 2 (by decide)) λd2 y p2 g2=>?_
  exact H _ _ (ZUx p1 p2) (up (k:=3) g2 (by decide))
 refine Za Yt (Zq (λ_=>H _ _ ZUw (up (k:=0) hx (by decide))) λ_=>?_)
 refine Za Yt (Zq (λ_=>?_) λ_=>?_)
 .refine Zeu (x:=x) hx l1 λd1 y p1 g1=>?_
  refine Qu (g:=nat 1) g1 (le2 2 (by decide)) λd2 y p2 g2=>?_
  exact H _ _ (ZUv p1 p2) (up (k:=3) g2 (by decide))
 refine Za Yt (Zq (λ_=>?_) λ_=>?_)
 .refine Zeu (x:=x) hx l1 λd1 y p1 g1=>?_
  exact H _ _ (ZUu p1) (up (k:=2) g1 (by decide))
 refine Za Yt (Zq (λ_=>?_) λ_=>?_)
 .refine Zeu (x:=x) hx l1 λd1 y p1 g1=>?_
  refine Zeu (x:=x) g1 (Nat.le_trans (le 2 (by decide)) (by decide)) λd2 y p2 g2=>?_
  exact H _ _ (ZUt p1 p2) (up (k:=4) g2 (by decide))
 refine Za Yt (Zq (λ_=>?_) λ_=>?_)
 .refine Zeu (x:=x) hx l1 λd1 y p1 g1=>?_
  exact H _ _ (ZUs p1) (up (k:=2) g1 (by decide))
 refine Za Yt (Zq (λ_=>?_) λ_=>?_)
 .refine Zew hx l2 λd1 y p1 _ g1=>?_
  refine Qu (g:=.none) g1 (le2 1 (by decide)) λd2 y p2 g2=>?_
  exact H _ _ (ZUr p1.z p2) (up (k:=2) g2 (by decide))
 refine ZPz (x:=x) hx (Nat.le_trans hM (by decide)) λd1 y p1 g1=>?_
 exact H _ _ (ZPi p1) (up (k:=5) g1 (by decide)))
end
section
variable{M N x:Nat}{b:Bool}{d:Ld}{l pc A:List Ld}{y:Bx}{E:Prop}
theorem Zek{l:List Int}:Jq (l.map .int)=some l:=by
 induction l with
 |nil=>rfl
 |cons i l ih=>
  show(Jq (l.map .int)).map (i::·)=_
  rw[ih];rfl
theorem ZVc{o:Op}:o.tk<=2:=by cases o <;> decide
theorem ZNg{o:Op}:(chg o).natAbs < 1099511627776:=by cases o <;> decide
noncomputable def ZGq(pc:List Ld):List Int:=pc.map λd=>chg d.op
theorem ZBw:builtin "sum" [.lst ((ZGq pc).map .int)]=some (.f (.int (ZGq pc).sum)):=by
 show(Jq ((ZGq pc).map .int)).bind _=_
 rw[Zek]
 refine if_pos (List.all_eq_true.mpr λi hi=>?_)
 obtain⟨d,_,rfl⟩:=List.mem_map.mp hi
 exact decide_eq_true ZNg
theorem Zvj(h:PcH x pc):(x:Int)+(ZGq pc).sum=(Zk x pc:Nat):=by
 induction pc generalizing x with
 |nil=>exact Int.add_zero _
 |cons d l ih=>
  show(x:Int)+(chg d.op::ZGq l).sum=(Zk (d.nx x) l:Nat)
  rw[List.sum_cons,<- Int.add_assoc,ZTw h.1.2.1,ih h.2]
noncomputable def Yd:Ld:=⟨.fail,.str (Str.ofString "Seam"),.str (Str.ofString "t")⟩
noncomputable def FirstD(A:List Ld):Prop:=PcH 0 A/\A≠[]/\A.length<=6/\Zk 0 A=0
noncomputable abbrev HI(A:List Ld)(y:Bx)(o1 o2 o3:Option OV):Sg:=[some y.o,some (.l (A.map Ld.m)),some (.l ((hs 0 A).map nat)),some (.f (nat (Zk 0 A))),o1,o2,o3]
theorem Jm(h:PcH (Zk 0 A) pc)(hl:A.length+pc.length<=1000):Ret 2 640 [.l (A.map Ld.m),.l ((hs 0 A).map nat),.f (.lst (pc.map Ld.m)),.f (nat (Zk 0 A))] (.f (nat (Zk 0 (A++pc)))) [some (.l ((A++pc).map Ld.m)),some (.l ((hs 0 (A++pc)).map nat)),none,none]:=by
 rw[Xu,Zsd]
 exact Zzu (λk hk=>h.at hk) hl Uc
noncomputable def Fst(A:List Ld):Prop:=PcH 0 A/\A.length+Zk 0 A<=6
theorem ZAt(hA:Fst A){l:List Ld}(hl:l.length<=100):A.length+l.length<=1000:=Nat.le_trans (Nat.add_le_add (Nat.le_trans (Nat.le_add_right ..) hA.2) hl) (by decide)
theorem ZCf:∀k (hk:k < [Yd].length),[Yd][k].op.tk<=Zk 0 ([Yd].take k)/\[Yd][k].op≠.append:=λk hk=>by
 obtain rfl:=Nat.lt_one_iff.mp hk
 exact⟨Nat.le_refl _,nofun⟩
variable{K:OV->List (Option OV)->Prop}
theorem Zns{Q:Fl->Sg->Prop}{k:Nat}(hy:y.ok M b)(hM:M<=960)(hA:Fst A)(H:∀A y,A≠[]->Fst A->Bx.ok y (M+7) b->∀o1 o2 o3,Q .next (HI A y o1 o2 o3)):
  (mg (N+7) (cl [.as (.tn 5) (.fn 626 (.lend 0 (cl [v 3,.ife (.sub (.v 0) (ki 3)) (ki 0) (.fn 577 (.lend 0 (cl [(ki 12)])))]))),.as (.tn 6) (.bin .Add (v 3) (.bi "sum" (cl [.comp (.fn 633 (cl [.sub (.v 1) (ki 0)])) (.n 1) (.ite (v 5)) .nil [] 2]))),.ifs (.cmp (.bin .Add (.bin .Add (.lenP (.v 1)) (.lenP (.v 5))) (v 6)) (.c1 .LtE (ki 6))) (cl [.as (.tn 3) (.fn 640 (.lend 1 (.lend 2 (cl [v 5,v 3]))))]) .nil])).s E (HI A y (some (.f (nat k))) none none) Q:=by
 obtain⟨g,s,z,bb⟩:=y
 cases bb
 case' false=>
  refine Jk (n:=12) hy (Nat.le_trans hM (by decide)) (by decide) (by decide) λway y _ hy=>?_
  refine Ziw (x:=Zk 0 A) (way:=way) hy (Nat.add_le_add hM (show 1<=10 by decide)) λpc y hp hy=>?_
 case' true=>refine Ziw (x:=Zk 0 A) (way:=0) hy (Nat.le_trans hM (by decide)) λpc y hp hy=>?_
 all_goals
  replace hy:Bx.ok y (M+7) b:=by first|exact hy|exact hy.mono (Nat.le_succ _)
  conv=>whnf
  obtain⟨h1,h2,h3,h4⟩:=hp
  have e:pc.map (λd=>MV.int (chg d.op))=(ZGq pc).map .int:=by unfold ZGq;rw[List.map_map];rfl
  refine CompP.mp pc Ld.m (λd=>.int (chg d.op)) rfl (λd hd R hR=>?_) ?_
  .obtain⟨k,hk,rfl⟩:=List.mem_iff_getElem.mp hd
   exact(Zkr (h1.at hk).2).h hR
  .rw[e]
   refine Za ZBw ?_
   conv=>whnf
   rw[Zvj h1]
   have en:((A.map Ld.m).length:Int)+(pc.map Ld.m).length+(Zk (Zk 0 A) pc:Nat)=((A.length+pc.length+Zk (Zk 0 A) pc:Nat):Int):=by rw[List.length_map,List.length_map];rfl
   rw[en]
   refine Zq (λhd=>?_) λhd=>?_
   .have hd:=Int.ofNat_le.mp (of_decide_eq_true hd)
    refine(Jm h1 (Nat.le_trans (Nat.le_add_right ..) (Nat.le_trans hd (by decide)))).h ?_
    exact H (A++pc) y (λe=>h2 (List.append_eq_nil_iff.mp e).2) ⟨hA.1.app h1,by rw[List.length_append,Xu];exact hd⟩ hy _ _ _
   .refine H A y (λe=>?_) hA hy _ _ _
    subst e
    refine of_decide_eq_false hd (Int.ofNat_le.mpr ?_)
    rw[show([]:List Ld).length=0 from rfl,Nat.zero_add]
    exact h3
theorem Zta(hy:y.ok M b)(hM:M<=900)(hn:A≠[])(hA:Fst A)(H:∀A y,FirstD A->Bx.ok y (M+6) b->K (.f (.tup [.lst ((A++[Yd]).map Ld.m),.lst ((hs 0 A++[0]).map nat)])) [some y.o]):
  (mg (N+7) (cl [.whl (.cmp (v 3) (.c1 .Gt (ki 0))) (cl [.as (.tn 3) (.fn 640 (.lend 1 (.lend 2 (cl [.lst (cl [.fn 605 (.lend 0 .nil)]),v 3]))))]),.ex (.fn 640 (.lend 1 (.lend 2 (cl [.lst (cl [.tup (cl [(ks "fail"),(ks "Seam"),(ks "t")])]),(ki 0)])))),.ret (.tup (cl [v 1,v 2]))])).s E (HI A y none none none) (Zgd [TP2.l] K):=by
 refine WhileP.ex (λk σ=>∃A y m,A≠[]/\Fst A/\Zk 0 A=k/\m+k<=M+6/\Bx.ok y m b/\σ=HI A y none none none) id _ (Zk 0 A) (Nat.lt_of_le_of_lt (Nat.le_trans (Nat.le_add_left ..) hA.2) (by decide)) rfl ⟨A,y,M,hn,hA,rfl,Nat.add_le_add_left (Nat.le_trans (Nat.le_add_left ..) hA.2) M,hy,rfl⟩ λk σ z R HR=>?_
 obtain⟨A,y,m,hn,hA,hk,hm,hy,e⟩:=z
 subst e
 have hl:Zk 0 A=k:=hk
 cases k with
 |zero=>
  have r:=Zzu (A:=A) (H:=hs 0 A) (x:=0) (pc:=[Yd]) ZCf (ZAt hA (by decide)) Uc
  conv=>whnf
  rw[hl]
  conv=>whnf
  refine r.h ?_
  exact H A y ⟨hA.1,hn,Nat.le_trans (Nat.le_add_right ..) hA.2,hl⟩ (hy.mono hm)
 |succ k=>
  have hk1:k+1<=6:=hl▸Nat.le_trans (Nat.le_add_left ..) hA.2
  have hm':m<=M+6:=Nat.le_trans (Nat.le_add_right ..) hm
  refine Zv (decide_eq_true (Int.ofNat_lt.mpr (show 0 < Zk 0 A by rw[hl];exact Nat.succ_pos k))) ⟨k,rfl,?_⟩
  refine Zpz hy (Nat.le_trans hm' (Nat.add_le_add hM (show 6<=100 by decide))) λd y hd hy=>?_
  have nx:Zk 0 (A++[d])=k:=by
   rw[Xu]
   exact hd.nx.trans (by rw[hl];rfl)
  have hpc:PcH (Zk 0 A) [d]:=⟨(hd.one (by rw[hl];exact Nat.succ_le_succ (Nat.zero_le k))).row,trivial⟩
  conv=>whnf
  refine(Jm (pc:=[d]) hpc (ZAt hA (Nat.le_of_ble_eq_true rfl))).h ?_
  refine HR k _ ⟨A++[d],y,m+1,λe=>List.cons_ne_nil _ _ (List.append_eq_nil_iff.mp e).2,⟨hA.1.app hpc,?_⟩,nx,Nat.le_trans (Nat.le_of_eq (Nat.add_right_comm m 1 k)) hm,hy,rfl⟩
  rw[nx,List.length_append]
  exact Nat.le_trans (Nat.le_of_eq ((Nat.add_right_comm ..).trans (Nat.add_assoc ..))) (hl▸hA.2)
theorem ZCw(hx:y.ok M b)(hM:M<=600)(H:∀A y,FirstD A->Bx.ok y (M+27) b->K (.f (.tup [.lst ((A++[Yd]).map Ld.m),.lst ((hs 0 A++[0]).map nat)])) [some y.o]):CallP (N+8) E 645 [y.o] K:=.of ZVs _ rfl (by
 have go:∀n,1<=n->n<=3->∀Q:Fl->Sg->Prop,(∀A z,A≠[]->Fst A->Bx.ok z (M+21) b->Q .next (HI A z none none none))->ForP (Zfy (.n 4)) ((mg (N+7) (cl [.as (.tn 5) (.fn 626 (.lend 0 (cl [v 3,.ife (.sub (.v 0) (ki 3)) (ki 0) (.fn 577 (.lend 0 (cl [(ki 12)])))]))),.as (.tn 6) (.bin .Add (v 3) (.bi "sum" (cl [.comp (.fn 633 (cl [.sub (.v 1) (ki 0)])) (.n 1) (.ite (v 5)) .nil [] 2]))),.ifs (.cmp (.bin .Add (.bin .Add (.lenP (.v 1)) (.lenP (.v 5))) (v 6)) (.c1 .LtE (ki 6))) (cl [.as (.tn 3) (.fn 640 (.lend 1 (.lend 2 (cl [v 5,v 3]))))]) .nil])).s E) ((List.range n).map nat) (HI [] y none none none) Q:=by
  intro n h1 h3 Q hQ
  refine ForP.ex (List.range n) nat (λk σ=>∃A z,(1<=k->A≠[])/\Fst A/\Bx.ok z (M+7*k) b/\σ=HI A z none none none) id _ rfl ⟨[],y,λh=>absurd h (by decide),⟨trivial,by decide⟩,hx,rfl⟩ (λk hk σ z R HR=>?_) λσ z=>?_
  .obtain⟨A,z,hn,hA,hy,e⟩:=z
   subst e
   rw[List.length_range]at hk
   rw[List.getElem_range]
   have hk:7*k<=14:=Nat.mul_le_mul_left 7 (Nat.le_of_lt_succ (Nat.lt_of_lt_of_le hk h3))
   exact Zns (k:=k) hy (Nat.le_trans (Nat.add_le_add hM hk) (by decide)) hA λA z hn hA hy o1 o2 o3=>HR _ ⟨A,z,λ_=>hn,hA,hy,rfl⟩
  .obtain⟨A,z,hn,hA,hy,e⟩:=z
   subst e
   rw[List.length_range]at hn hy
   exact hQ A z (hn h1) hA (hy.mono (Nat.add_le_add_left (Nat.mul_le_mul_left 7 h3) M))
 have fin:∀A z,A≠[]->Fst A->Bx.ok z (M+21) b->_:=λA z hn hA hz=>Zta (N:=N) (E:=E) (K:=K) hz (Nat.le_trans (Nat.add_le_add hM (show 21<=300 by decide)) (by decide)) hn hA H
 obtain⟨g,s,k,bb⟩:=y
 cases bb
 .exact go 3 (by decide) (by decide) _ fin
 .exact go 1 (by decide) (by decide) _ fin)
end
section
variable{M N x:Nat}{b:Bool}{d:Ld}{l pc A:List Ld}{y:Bx}{E:Prop}{K:OV->List (Option OV)->Prop}{o1 o2:Option OV}
noncomputable def SecondD(L:List Ld):Prop:=∃A pc,L=A++pc/\PcH 0 A/\PcH (Zk 0 A) pc/\(∀d∈pc,d.op.isJ=true->d.a=.none)/\(∃L' d,pc=L'++[d]/\d.op.isEnd=true)/\L.length<=6
noncomputable def tl:CE->CE
 | .cons _ r=>r
 |c=>c
noncomputable abbrev SJ(A:List Ld)(y:Bx)(o1 o2 o3 o4 o5:Option OV):Sg:=[some y.o,some (.l (A.map Ld.m)),some (.l ((hs 0 A).map nat)),some (.f (nat (Zk 0 A))),o1,o2,o3,o4,o5]
theorem Zqf:OneD x ⟨.push,.int 5,.none⟩:=Qj (Zed trivial rfl) rfl (Nat.zero_le _) rfl
noncomputable def SecEnd(x:Nat)(pc:List Ld):Prop:=PcH x pc/\pc.length<=2/\(∀d∈pc,d.op.isJ=true->d.a=.none)/\∃L' d,pc=L'++[d]/\d.op.isEnd=true
theorem SecEnd.one(h:OneD x d)(he:d.op.isEnd=true):SecEnd x [d]:=⟨⟨h.row,trivial⟩,Nat.le_of_ble_eq_true rfl,λe he=>List.mem_singleton.mp he▸h.2.2.1,[],d,rfl,he⟩
theorem SecEnd.two:SecEnd x [⟨.push,.int 5,.none⟩,⟨.leave,.none,.none⟩]:=⟨⟨Zqf.row,(Qj (x:=x+1) (Qe rfl rfl rfl) rfl Zbz rfl).row,trivial⟩,by decide,fm (λe=>by cases e) (fm (λe=>by cases e) fmN),[⟨.push,.int 5,.none⟩],_,rfl,rfl⟩
theorem SecEnd.ok(hA:PcH 0 A)(hl:A.length<=4)(h:SecEnd (Zk 0 A) pc):SecondD (A++pc):=⟨A,pc,rfl,hA,h.1,h.2.2.1,h.2.2.2,List.length_append▸Nat.add_le_add hl h.2.1⟩
theorem SecEnd.call(hl:A.length<=4)(h:SecEnd (Zk 0 A) pc):Ret 2 640 [.l (A.map Ld.m),.l ((hs 0 A).map nat),.f (.lst (pc.map Ld.m)),.f (nat (Zk 0 A))] (.f (nat (Zk 0 (A++pc)))) [some (.l ((A++pc).map Ld.m)),some (.l ((hs 0 (A++pc)).map nat)),none,none]:=Jm h.1 (Nat.le_trans (Nat.add_le_add hl h.2.1) (by decide))
theorem Zko(hy:y.ok M b)(hM:M<=900)(hA:PcH 0 A)(hl:A.length<=4)(H:∀L z,SecondD L->Bx.ok z (M+1) b->K (.f (.tup [.lst (L.map Ld.m),.lst ((hs 0 L).map nat)])) [some z.o]):(mg (N+7) (tl (tl (tl (tl ZNq))))).s E (SJ A y o1 o2 none none none) (Zgd [TP2.l] K):=by
 have e1:SecEnd (Zk 0 A) [⟨.jump,.none,.none⟩]:=.one (Znc rfl (Nat.zero_le _)) rfl
 have e2:SecEnd (Zk 0 A) [⟨.fail,.str (Str.ofString "E"),.str (Str.ofString "t")⟩]:=.one (Qj (Zht "t" (Zvn "E" rfl)) rfl (Nat.zero_le _) rfl) rfl
 have e3:SecEnd (Zk 0 A) [⟨.push,.int 5,.none⟩,⟨.leave,.none,.none⟩]:=.two
 have e4:0 < Zk 0 A->SecEnd (Zk 0 A) [⟨.leave,.none,.none⟩]:=λh=>.one (Qj (Qe rfl rfl rfl) rfl h rfl) rfl
 have fin:∀(way:Nat) (z:Bx),z.ok (M+1) b->(mg (N+7) (tl (tl (tl (tl (tl ZNq)))))).s E (SJ A z (some (.f (nat way))) o2 none none none) (Zgd [TP2.l] K):=by
  intro way z hz
  refine Za Yt (Zq (λ_=>?_) λ_=>?_)
  .exact(e1.call hl).h (H _ z (e1.ok hA hl) hz)
  have last:(mg (N+7) (cl [.as (.tn 8) (.bin .Add (.ife (.cmp (v 3) (.c1 .Eq (ki 0))) (.lst (cl [.tup (cl [(ks "push"),(ki 5),.k .none])])) (.lst .nil)) (.lst (cl [.tup (cl [(ks "leave"),.k .none,.k .none])]))),.ex (.fn 640 (.lend 1 (.lend 2 (cl [v 8,v 3]))))])).s E (SJ A z (some (.f (nat way))) o2 none none none) (λt σ=>match t with| .next=>(mg (N+7) (cl [.ret (.tup (cl [v 1,v 2]))])).s E σ (Zgd [TP2.l] K)|t=>Zgd [TP2.l] K t σ):=by
   refine Za (Zef (a:=Zk 0 A) (b:=0)) (Zq (λ_=>?_) λe=>?_)
   .exact(e3.call hl).h (H _ z (e3.ok hA hl) hz)
   .have e4:=e4 (Nat.pos_of_ne_zero (beq_eq_false_iff_ne.mp e))
    exact(e4.call hl).h (H _ z (e4.ok hA hl) hz)
  refine Za Yt (Zq (λ_=>?_) λ_=>last)
  refine Za (Zef (a:=Zk 0 A) (b:=0)) (Zq (λ_=>?_) λ_=>last)
  exact(e2.call hl).h (H _ z (e2.ok hA hl) hz)
 obtain⟨g,s,k,bb⟩:=y
 cases bb
 .exact Jk (n:=4) hy (Nat.le_trans hM (by decide)) (by decide) (by decide) λway z _ hz=>fin way z hz
 .exact fin 2 _ (hy.mono (Nat.le_succ _))
theorem ZCe(hy:y.ok M b)(hM:M<=800)(hA:PcH 0 A)(hl:A.length<=4)(H:∀L z,SecondD L->Bx.ok z (M+22) b->K (.f (.tup [.lst (L.map Ld.m),.lst ((hs 0 L).map nat)])) [some z.o]):(mg (N+7) (tl (tl (tl ZNq)))).s E (SJ A y o1 o2 none none none) (Zgd [TP2.l] K):=by
 obtain⟨g,s,k,bb⟩:=y
 cases bb
 .refine ForP.ex (List.range 3) nat (λk σ=>∃A z o1 o2,PcH 0 A/\A.length<=4/\Bx.ok z (M+7*k) b/\σ=SJ A z o1 o2 none none none) id _ rfl ⟨A,⟨g,s,k,false⟩,o1,o2,hA,hl,hy,rfl⟩ (λk hk σ z R HR=>?_) λσ z=>?_
  .obtain⟨A,z,o1,o2,hA,hl,hz,e⟩:=z
   subst e
   have hM':M+7*k<=814:=Nat.add_le_add hM (Nat.mul_le_mul_left 7 (Nat.le_of_lt_succ hk))
   refine Jk (n:=12) hz (Nat.le_trans hM' (by decide)) (by decide) (by decide) λway z _ hz=>?_
   refine Ziw (x:=Zk 0 A) (way:=way) hz (Nat.succ_le_succ (Nat.le_trans hM' (by decide))) λpc z hp hz=>?_
   obtain⟨h1,h2,h3,h4⟩:=hp
   conv=>whnf
   refine Zq (λhd=>?_) λhd=>?_
   .have hd:A.length+pc.length<=4:=Int.ofNat_le.mp (List.length_map Ld.m (as:=A)▸List.length_map Ld.m (as:=pc)▸of_decide_eq_true hd)
    refine(Jm h1 (Nat.le_trans hd (by decide))).h ?_
    exact HR _ ⟨A++pc,z,_,_,hA.app h1,List.length_append▸hd,hz,rfl⟩
   .exact HR _ ⟨A,z,_,_,hA,hl,hz,rfl⟩
  .obtain⟨A,z,o1,o2,hA,hl,hz,e⟩:=z
   subst e
   exact Zko hz (Nat.le_trans (Nat.add_le_add_right hM 21) (by decide)) hA hl H
 .refine ForP.st (List.range 0) nat (λ_=>SJ A ⟨g,s,k,true⟩ o1 o2 none none none) rfl nofun ?_
  exact Zko hy (Nat.le_trans hM (by decide)) hA hl λL z hL hz=>H L z hL (hz.mono (Nat.add_le_add_left (by decide) M))
theorem Zvx(hy:y.ok M b)(hM:M<=700)(H:∀L z,SecondD L->Bx.ok z (M+23) b->K (.f (.tup [.lst (L.map Ld.m),.lst ((hs 0 L).map nat)])) [some z.o]):CallP (N+8) E 652 [y.o] K:=.of ZVr _ rfl (by
 have mid:∀{A z o1 o2},Bx.ok z (M+1) b->PcH 0 A->A.length<=4->(mg (N+7) (tl (tl (tl ZNq)))).s E (SJ A z o1 o2 none none none) (Zgd [TP2.l] K):=λhz hA hl=>ZCe hz (Nat.succ_le_succ (Nat.le_trans hM (by decide))) hA hl H
 have p:∀{d:Ld},OneD 0 d->PcH 0 [d]:=λh=>⟨h.row,trivial⟩
 have one:∀{d:Ld},OneD 0 d->Ret 2 640 [.l [],.l [],.f (.lst [d.m]),.f (.int 0)] (.f (nat (Zk 0 [d]))) [some (.l [d.m]),some (.l [nat 0]),none,none]:=λ{d} h=>Jm (A:=[]) (pc:=[d]) (p h) (Nat.le_of_ble_eq_true rfl)
 obtain⟨g,s,k,bb⟩:=y
 cases bb
 .refine Jk (n:=4) hy (Nat.le_trans hM (by decide)) (by decide) (by decide) λway z hw hz=>?_
  have t:OneD 0 ⟨.text,.str (Str.ofString "t"),.none⟩:=Qj (Ud "t" rfl rfl rfl rfl rfl) rfl (Nat.zero_le _) rfl
  have u:OneD 0 ⟨.undef,.str (Str.ofString "u"),.none⟩:=Qj (Ud "u" rfl rfl rfl rfl rfl) rfl (Nat.zero_le _) rfl
  have j:OneD 0 ⟨.jump,.none,.none⟩:=Znc rfl (Nat.zero_le _)
  rcases way with _|_|_|_|way
  .exact(one t).h (mid (A:=[_]) hz (p t) (Nat.le_of_ble_eq_true rfl))
  .exact(one u).h (mid (A:=[_]) hz (p u) (Nat.le_of_ble_eq_true rfl))
  .exact(one j).h (mid (A:=[_]) hz (p j) (Nat.le_of_ble_eq_true rfl))
  .exact mid (A:=[]) hz trivial (by decide)
  .exact absurd hw (Nat.not_lt_of_le (Nat.le_add_left 4 way))
 .exact mid (A:=[]) (hy.mono (Nat.le_succ _)) trivial (by decide))
end
section
variable{x i:Nat}{d:Ld}{l pc A L:List Ld}
noncomputable def hgt(L:List Ld)(i:Nat):Nat:=Zk 0 (L.take i)
structure Lay(L:List Ld):Prop where
 len:L.length<=7
 pos:0 < L.length
 row:∀i (hi:i < L.length),L[i].op.tk<=hgt L i/\L[i].op≠.append
 nxt:∀i (hi:i < L.length),L[i].op.isEnd=false->i+1 < L.length
 jmp:∀i (hi:i < L.length),L[i].op.isJ=true->L[i].b=.none/\(L[i].a=.none\/∃k,L[i].a=nat k/\i+k < L.length/\hgt L (i+k)+L[i].op.tk=hgt L i+L[i].op.pt)
theorem Zlt(hi:i < L.length):hgt L (i+1)=L[i].nx (hgt L i):=by
 unfold hgt
 rw[List.take_succ_eq_append_getElem hi,Xu];rfl
theorem Zfp(hi:i<=A.length):hgt (A++pc) i=hgt A i:=by unfold hgt;rw[List.take_append_of_le_length hi]
theorem Zwx:hgt (A++pc) (A.length+i)=Zk (Zk 0 A) (pc.take i):=by unfold hgt;rw[List.take_length_add_append,Xu]
theorem PcH.idx(h:PcH x l)(hi:i < l.length):l[i].good/\l[i].op.tk<=Zk x (l.take i)/\l[i].op≠.append/\(l[i].op.isJ=true->l[i].a=.none\/∃k,l[i].a=nat k/\i+k<=l.length/\Zk x (l.take (i+k))+l[i].op.tk=Zk x (l.take i)+l[i].op.pt):=by
 induction l generalizing x i with
 |nil=>exact absurd hi (Nat.not_lt_zero i)
 |cons d l ih=>cases i with
  |zero=>exact⟨h.1.1,h.1.2.1,h.1.2.2.1,λe=>(h.1.2.2.2 e).imp id (.imp λk z=>⟨z.1,(Nat.zero_add k).symm▸z.2.2.1,(Nat.zero_add k).symm▸z.2.2.2⟩)⟩
  |succ i=>
   obtain⟨h1,h2,h3,h4⟩:=ih h.2 (Nat.lt_of_succ_lt_succ hi)
   exact⟨h1,h2,h3,λe=>(h4 e).imp id (.imp λk z=>⟨z.1,Nat.succ_add i k▸Nat.succ_le_succ z.2.1,Nat.succ_add i k▸z.2.2⟩)⟩
theorem ZAp(h:i < l.length):(hs x l)[i]?=some (Zk x (l.take i)):=by
 induction l generalizing x i with
 |nil=>exact absurd h (Nat.not_lt_zero i)
 |cons d l ih=>cases i with
  |zero=>rfl
  |succ i=>exact ih (Nat.lt_of_succ_lt_succ h)
theorem ZMt(hi:i < L.length)(h:L=A++[d])(he:L[i].op.isEnd=false)(hd:d.op.isEnd=true):i+1 < L.length:=by
 subst h
 rw[List.length_append]at hi⊢
 refine(Nat.lt_or_eq_of_le (Nat.le_of_lt_succ hi)).elim Nat.succ_lt_succ λe=>?_
 subst e
 rw[List.getElem_concat_length rfl,hd]at he
 cases he
theorem ZAi{B:List Ld}(h1:PcH 0 A)(hB:B=pc++[d])(he:d.op.isEnd=true)(hl:A.length+B.length<=7)(hr:∀j (hj:j < B.length),(B[j].op.tk<=Zk (Zk 0 A) (B.take j)/\B[j].op≠.append)/\(B[j].op.isJ=true->B[j].b=.none/\B[j].a=.none)):Lay (A++B):=by
 have hL:(A++B).length=A.length+B.length:=List.length_append
 have key:∀i (hi:i < (A++B).length),(∃h',(A++B)[i]=A[i]'h')\/∃j,i=A.length+j/\∃hj,(A++B)[i]=B[j]'hj:=λi hi=>by
  by_cases e:i < A.length
  .exact .inl ⟨e,List.getElem_append_left e⟩
  .have e:=Nat.le_of_not_lt e
   exact .inr ⟨i - A.length,(Nat.add_sub_cancel' e).symm,Nat.sub_lt_left_of_lt_add e (hL▸hi),List.getElem_append_right e⟩
 refine⟨hL▸hl,by rw[hL,hB,List.length_append];exact Nat.succ_pos _,λi hi=>?_,λi hi hn=>ZMt (A:=A++pc) hi (by rw[hB,List.append_assoc]) hn he,λi hi hj=>?_⟩
 .rcases key i hi with⟨e,q⟩|⟨j,rfl,e,q⟩
  .rw[q,Zfp (Nat.le_of_lt e)]
   exact h1.at e
  .rw[q,Zwx];exact(hr j e).1
 .rcases key i hi with⟨e,q⟩|⟨j,rfl,e,q⟩
  .rw[q]at hj⊢
   obtain⟨g,_,_,z⟩:=h1.idx e
   refine⟨(g.2 hj).1,(z hj).imp id (.imp λk z=>⟨z.1,Nat.lt_of_le_of_lt z.2.1 ?_,by rw[Zfp z.2.1,Zfp (Nat.le_of_lt e)];exact z.2.2⟩)⟩
   rw[hL,hB,List.length_append]
   exact Nat.lt_add_of_pos_right (Nat.succ_pos _)
  .rw[q]at hj⊢
   exact⟨((hr j e).2 hj).1,.inl ((hr j e).2 hj).2⟩
theorem FirstD.lay(h:FirstD A):Lay (A++[Yd]):=ZAi (pc:=[]) h.1 rfl rfl (Nat.succ_le_succ h.2.2.1) λj hj=>by
 obtain rfl:=Nat.lt_one_iff.mp hj
 exact⟨⟨Nat.zero_le _,nofun⟩,nofun⟩
theorem SecondD.lay(h:SecondD L):Lay L:=by
 obtain⟨A,pc,rfl,h1,h2,h3,⟨pc',d,e,hd⟩,h5⟩:=h
 exact ZAi h1 e hd (Nat.le_succ_of_le (List.length_append▸h5)) λj hj=>⟨h2.at hj,λz=>⟨((h2.idx hj).1.2 z).1,h3 _ (List.getElem_mem hj) z⟩⟩
end
section
variable{M N x:Nat}{b:Bool}{d:Ld}{l pc A L:List Ld}{y:Bx}{E:Prop}{K:OV->List (Option OV)->Prop}
theorem ZPc{i:Nat}(hi:i < L.length):getItem (.f (.lst ((hs 0 L).map nat))) (nat i)=some (nat (hgt L i)):=Znl (by rw[List.getElem?_map,ZAp hi];rfl)
noncomputable def Qz(n:Nat)(p:Nat->Bool):List MV:=(List.range n).filterMap λg=>if p g then some (nat g)else none
theorem Ur{n:Nat}{p:Nat->Bool}{m:MV}(h:m∈Qz n p):∃g,g < n/\p g=true/\m=nat g:=by
 obtain⟨g,hg,e⟩:=List.mem_filterMap.mp h
 cases hp:p g with
 |false=>rw[hp]at e;cases e
 |true=>rw[hp]at e;exact⟨g,List.mem_range.mp hg,hp,(Option.some.inj e).symm⟩
theorem Zdt{n:Nat}{p:Nat->Bool}{g:Nat}(h:g < n)(hp:p g=true):0 < (Qz n p).length:=
 List.length_pos_of_mem (List.mem_filterMap.mpr ⟨g,List.mem_range.mpr h,if_pos hp⟩)
theorem Zbw{n:Nat}{p:Nat->Bool}:(Qz n p).length<=n:=Nat.le_trans (List.length_filterMap_le _ _) (Nat.le_of_eq List.length_range)
noncomputable def Zck(o:Op):Nat:=if o.isBr then 1 else 0
theorem ZSu(o:Op):["jumpif","jumpunless"].contains o.n=o.isBr:=by cases o <;> rfl
theorem ZNj{h j:Nat}{o:Op}:((h:Int)==(j:Int) - o.isBr.toInt)=true↔h+Zck o=j:=by
 rw[beq_iff_eq,show o.isBr.toInt=(Zck o:Int)by unfold Zck;cases o.isBr <;> rfl]
 exact⟨λe=>Int.ofNat.inj ((congrArg (·+(Zck o:Int)) e).trans (Int.sub_add_cancel _ _)),λe=>(Int.add_sub_cancel (h:Int) (Zck o)).symm.trans (congrArg (λx:Int=>x - (Zck o:Int)) (congrArg Int.ofNat e))⟩
theorem ZJv{i:Nat}(hy:y.ok M b)(hM:M<=900)(hn:L.length<=7)(hi:i < L.length)(hg:∃g,g < L.length/\hgt L g+Zck L[i].op=hgt L i)(H:∀g z,g < L.length->hgt L g+Zck L[i].op=hgt L i->Bx.ok z (M+1) b->K (.f (nat g)) [some z.o,none,none,none]):CallP (N+3) E 657 [y.o,.f (.lst (L.map Ld.m)),.f (.lst ((hs 0 L).map nat)),.f (nat i)] K:=.of ZVq _ rfl (by
 refine Za (ZPc hi) ?_
 refine Za (Zal hi) ?_
 refine Za (Zcm L[i].op.n ["jumpif","jumpunless"]) ?_
 rw[ZSu]
 conv=>whnf
 refine Za (by rw[List.length_map,Uc];exact Jc (Nat.le_trans hn (by decide))) ?_
 refine CompP.fm (List.range L.length) nat (λg=>if(hgt L g:Int)==(hgt L i:Int) - L[i].op.isBr.toInt then some (nat g)else none) rfl (λg hg R hR=>?_) ?_
 .conv=>whnf
  refine Za (ZPc (List.mem_range.mp hg)) ?_
  refine Za Yt (Zq (λe=>?_) λe=>?_) <;> (rw[e]at hR;exact hR)
 .obtain⟨g,h1,h2⟩:=hg
  have hpos:0 < (Qz L.length λg=>(hgt L g:Int)==(hgt L i:Int) - L[i].op.isBr.toInt).length:=Zdt h1 (ZNj.mpr h2)
  refine Jz hy (Nat.le_trans hM (by decide)) hpos (Nat.le_trans Zbw (Nat.le_trans hn (by decide))) λm z hm hz=>?_
  obtain⟨g,q1,q2,rfl⟩:=Ur hm
  exact H g z q1 (ZNj.mp q2) hz)
end
section
variable{M N x:Nat}{b:Bool}{y:Bx}{E:Prop}{K:OV->List (Option OV)->Prop}{H:List Nat}
noncomputable def ZHh(H:List Nat)(ks:List Ct):Prop:=ks.length<=1/\∀k∈ks,k.frm H.length/\H[k.target]?=some (k.depth+1)/\∀i,k.first<=i->i < k.last->∃h,H[i]?=some h/\k.depth<=h
theorem Zma{l:List Int}{a:Int}:l.foldl min a<=a/\∀h∈l,l.foldl min a<=h:=by
 induction l generalizing a with
 |nil=>exact⟨Int.le_refl _,nofun⟩
 |cons c l ih=>exact⟨Int.le_trans ih.1 (Int.min_le_left ..),List.forall_mem_cons.mpr ⟨Int.le_trans ih.1 (Int.min_le_right ..),ih.2⟩⟩
theorem Zwv{l:List Nat}:l.map nat=(l.map λn:Nat=>(n:Int)).map .int:=by rw[List.map_map];rfl
theorem ZDz{l:List Nat}(h:l≠[]):∃q:Int,builtin "min" [.lst (l.map nat)]=some (.f (.int q))/\∀h∈l,q<=(h:Int):=by
 cases l with
 |nil=>exact absurd rfl h
 |cons a l=>
  refine⟨(l.map λn:Nat=>(n:Int)).foldl min (a:Int),?_,List.forall_mem_cons.mpr ⟨Zma.1,λh hh=>Zma.2 _ (List.mem_map.mpr ⟨h,hh,rfl⟩)⟩⟩
  show((Jq ((a::l).map nat)).bind λis=>(ZEa is).bind Zgc)=_
  rw[Zwv,Zek];rfl
theorem ZGh{i j:Nat}(hj:j<=H.length)(hi:i<=j):cut (some (i:Int)) (some (j:Int)) (H.map nat)=((H.take j).drop i).map nat:=by
 have c:∀{k:Nat},k<=H.length->Zfw (k:Int) (H.map nat).length=k:=λ{k} h=>by
  unfold Zfw
  rw[if_pos (Int.natCast_nonneg k),Int.toNat_natCast,List.length_map,Nat.min_eq_left h]
 show((H.map nat).take (Zfw (j:Int) (H.map nat).length)).drop (Zfw (i:Int) (H.map nat).length)=_
 rw[c hj,c (Nat.le_trans hi hj),<- List.map_take,<- List.map_drop]
theorem ZHf{i h:Nat}(hi:H[i]?=some h):getItem (.f (.lst (H.map nat))) (nat i)=some (nat h):=Znl (by rw[List.getElem?_map,hi];rfl)
theorem ZNh{s:String}{f b g h:Nat}{q:Int}(hs:s∈["rescue","ensure"])(hf:f < b)(hb:b<=H.length)(hg:H[g]?=some (h+1))(hq:∀i∈(H.take b).drop f,q<=(i:Int))(he:¬q < (h:Int)):ZHh H [⟨s,f,b,g,h⟩]:=by
 refine⟨Nat.le_refl 1,λk hk=>?_⟩
 rw[List.mem_singleton.mp hk]
 refine⟨⟨(List.mem_cons.mp hs).imp id List.mem_singleton.mp,hf,hb,(List.getElem?_eq_some_iff.mp hg).1⟩,hg,λi (i1:f<=i) (i2:i < b)=>?_⟩
 have hi:i < H.length:=Nat.lt_of_lt_of_le i2 hb
 refine⟨H[i],List.getElem?_eq_getElem hi,Int.ofNat_le.mp (Int.le_trans (Int.not_lt.mp he) (hq _ (List.mem_of_getElem? (i:=i - f) ?_)))⟩
 rw[List.getElem?_drop,Nat.add_sub_cancel' i1,List.getElem?_take_of_lt i2,List.getElem?_eq_getElem hi]
theorem ZPr{f b:Nat}(hf:f < b)(hb:b<=H.length):(H.take b).drop f≠[]:=λe=>by
 have:=congrArg List.length e
 rw[List.length_drop,List.length_take,Nat.min_eq_left hb]at this
 exact Nat.ne_of_gt (Nat.sub_pos_of_lt hf) this
theorem Zyq{ms:List MV}{sure:Bool}(hy:y.ok M b)(hM:M<=900)(h0:0 < H.length)(h7:H.length<=7)(hne:ms≠[])(hms:ms.length<=7)(hmem:∀m∈ms,∃g h,H[g]?=some (h+1)/\m=nat g)(HK:∀ks z,ZHh H ks->Bx.ok z (M+4) b->K (.l (ks.map Ct.m)) [some z.o,none,none]):
  (mg (N+3) (tl (tl ZUk))).s E [some y.o,some (.f (.lst (H.map nat))),some (.f (.bool sure)),some (.f (.lst ms)),none,none,none,none] (Zgd [TP2.l,TP2.f,TP2.f] K):=by
 have le:∀k,k<=10->M+k<=1000:=λk h=>Nat.le_trans (Nat.add_le_add hM h) (by decide)
 have h1k:H.length<=1000:=Nat.le_trans h7 (by decide)
 have hl:(H.map nat).length=H.length:=List.length_map _
 refine Jz hy (le 0 (by decide)) (List.length_pos_iff.mpr hne) (Nat.le_trans hms (by decide)) λm z hm hz=>?_
 obtain⟨g,h,hg,rfl⟩:=hmem m hm
 conv=>whnf
 rw[hl]
 refine Jk (n:=H.length) hz (le 1 (by decide)) h0 h1k λf z hf hz=>?_
 conv=>whnf
 rw[show(((H.map nat).length:Int) - (f:Int))=((H.length - f:Nat):Int)by rw[hl,Int.ofNat_sub (Nat.le_of_lt hf)]]
 refine Jk (n:=H.length - f) hz (le 2 (by decide)) (Nat.sub_pos_of_lt hf) (Nat.le_trans (Nat.sub_le ..) h1k) λk z hk hz=>?_
 have hb:f+1+k<=H.length:=Nat.le_trans (Nat.le_of_eq (by rw[Nat.add_assoc,Nat.add_comm 1 k])) (Nat.add_le_of_le_sub' (Nat.le_of_lt hf) hk)
 have hfb:f < f+1+k:=Nat.lt_of_lt_of_le (Nat.lt_succ_self f) (Nat.le_add_right ..)
 obtain⟨q,hq,hq2⟩:=ZDz (ZPr hfb hb)
 conv=>whnf
 refine Jz (l:=["rescue","ensure"].map λs=>MV.str (Str.ofString s)) hz (le 3 (by decide)) (by decide) (by decide) λm z hm hz=>?_
 obtain⟨s,hs,rfl⟩:=List.mem_map.mp hm
 rw[<- ZGh hb (Nat.le_of_lt hfb)]at hq
 conv=>whnf
 refine Za hq ?_
 conv=>whnf
 refine Za (ZHf hg) ?_
 have e1:((h+1:Nat):Int) - 1=(h:Int):=(show((h:Int)+1) - 1=h from Int.add_sub_cancel ..)
 conv=>whnf
 rw[e1]
 refine Zq (λe=>?_) λe=>?_
 .exact HK [] z ⟨Nat.zero_le _,nofun⟩ hz
 .conv=>whnf
  refine Za (ZHf hg) ?_
  conv=>whnf
  rw[e1]
  exact(Zix (s:=s)).h (HK [⟨s,f,f+1+k,g,h⟩] z (ZNh hs hfb hb hg hq2 (of_decide_eq_false e)) hz)
theorem Zks{sure:Bool}(hy:y.ok M b)(hM:M<=890)(h0:0 < H.length)(h7:H.length<=7)(HK:∀ks z,ZHh H ks->Bx.ok z (M+5) b->K (.l (ks.map Ct.m)) [some z.o,none,none]):CallP (N+4) E 662 [y.o,.f (.lst (H.map nat)),.f (.bool sure)] K:=.of ZVp _ rfl (by
 have nilD:ZHh H []:=⟨Nat.zero_le _,nofun⟩
 conv=>whnf
 refine Za (by rw[List.length_map];exact Jc (Nat.le_trans h7 (by decide))) ?_
 refine CompP.fm (List.range H.length) nat (λg=>if decide ((H.getD g 0:Int)> 0)then some (nat g)else none) rfl (λg hg R hR=>?_) ?_
 .have hl:=List.mem_range.mp hg
  rw[show H.getD g 0=H[g]by rw[List.getD_eq_getElem?_getD,List.getElem?_eq_getElem hl];rfl]at hR
  conv=>whnf
  refine Za (ZHf (List.getElem?_eq_getElem hl)) (Zq (λe=>?_) λe=>?_) <;> (rw[e]at hR;exact hR)
 .have hmem:∀m∈Qz H.length λg=>decide ((H.getD g 0:Int)> 0),∃g h,H[g]?=some (h+1)/\m=nat g:=λm hm=>by
   obtain⟨g,h1,h2,rfl⟩:=Ur hm
   have hg:=List.getElem?_eq_getElem h1
   rw[List.getD_eq_getElem?_getD,hg]at h2
   exact⟨g,H[g] - 1,hg.trans (congrArg some (Nat.sub_add_cancel (Int.ofNat_lt.mp (of_decide_eq_true h2))).symm),rfl⟩
  have hle:(Qz H.length λg=>decide ((H.getD g 0:Int)> 0)).length<=7:=Nat.le_trans Zbw h7
  revert hmem hle
  rw[show(List.range H.length).filterMap _=Qz H.length λg=>decide ((H.getD g 0:Int)> 0)from rfl]
  generalize Qz H.length _=ms
  intro hmem hle
  have rest:∀z,ms≠[]->Bx.ok z (M+1) b->_:=λz hne hz=>Zyq (N:=N) (E:=E) (K:=K) (sure:=sure) hz (Nat.le_trans (Nat.succ_le_succ hM) (by decide)) h0 h7 hne hle hmem HK
  have nil:∀{z:Bx} {k},k<=5->Bx.ok z (M+k) b->K (.l []) [some z.o,none,none]:=λhk hz=>HK [] _ nilD (hz.mono (Nat.add_le_add_left hk M))
  cases ms with
  |nil=>exact nil (k:=0) (by decide) hy
  |cons m ms=>
   have rest:=λz=>rest z (List.cons_ne_nil _ _)
   cases sure
   .obtain⟨g,s,k,bb⟩:=y
    cases bb
    .refine Jk (n:=3) hy (Nat.le_trans hM (by decide)) (by decide) (by decide) λd z _ hz=>?_
     conv=>whnf
     refine Za Yt (Zq (λ_=>nil (k:=1) (by decide) hz) λ_=>rest z hz)
    .exact nil (k:=0) (by decide) hy
   .exact rest y (hy.mono (Nat.le_succ _)))
end
section
variable{M N x:Nat}{b:Bool}{y:Bx}{E:Prop}{K:OV->List (Option OV)->Prop}{L:List Ld}{c:Cd}
theorem Zbq{own:Bool}:Ret 2 674 [(match own with|true=>.l (c.rows.map Rw.m)|false=>.f (.lst (c.rows.map Rw.m))),.f (.lst (c.catches.map Ct.m)),.f (.lst (c.starts.map nat))] (c.o own) [none,none,none]:=.of ZVn _ rfl λN E K hK=>by
 cases own
 .exact(Zkt (c:=c) (own:=false)).h hK
 .exact(Zkt (c:=c) (own:=true)).h hK
noncomputable def p4:Op->String
 | .push=>"push"| .text=>"text"| .pop=>"pop"| .dup=>"dup"| .swap=>"swap"| .self=>"self"| .getl=>"getl"| .setl=>"setl"| .geti=>"geti"| .seti=>"seti"
 | .getg=>"getg"| .setg=>"setg"| .setc=>"setc"| .jump| .jumpif| .jumpunless| .jumpnil=>"jump"| .undef=>"unde"| .leave=>"leav"| .fail=>"fail"| .blockgiven=>"bloc"| .append=>"appe"
theorem ZKk(o:Op):Zbl (.f o.m) none (some 4)=some (.f (.str (Str.ofString (p4 o)))):=by cases o <;> rfl
theorem ZKl(o:Op):Ym .Eq (.str (Str.ofString (p4 o))) (.f (.str (Str.ofString "jump")))=some o.isJ:=(Ys _ _).trans (congrArg some (by cases o <;> rfl))
noncomputable def RowD(L:List Ld)(line:Int)(i:Nat)(d:Ld)(r:Rw):Prop:=r.op=d.op/\r.line=line+i/\(d.op.isJ=false->r.a=d.a/\r.b=d.b)/\(d.op.isJ=true->r.b=.none/\r.a=nat r.t/\r.t < L.length/\hgt L r.t+d.op.tk=hgt L i+d.op.pt)
structure SceneD(L:List Ld)(many:Nat)(line:Int)(c:Cd):Prop where
 len:c.rows.length=L.length
 row:∀i (hi:i < L.length),∃r,c.rows[i]?=some r/\RowD L line i L[i] r
 cat:ZHh ((hs 0 L).take many) c.catches
 sta:c.starts=[0]\/∃s,s < many/\c.starts=[0,s]/\hgt L s=0
theorem Zyr{o:Op}(h:o.isBr=true):o.isEnd=false/\o.tk=1/\o.pt=0:=by cases o <;> first|exact⟨rfl,rfl,rfl⟩|cases h
theorem ZFk(h:Lay L){i:Nat}(hi:i < L.length):∃g,g < L.length/\hgt L g+Zck L[i].op=hgt L i:=by
 unfold Zck
 cases hb:L[i].op.isBr with
 |false=>exact⟨i,hi,rfl⟩
 |true=>
  obtain⟨e1,e2,e3⟩:=Zyr hb
  have h1:=(h.row i hi).1
  refine⟨i+1,h.nxt i hi e1,?_⟩
  rw[Zlt hi,if_pos rfl]
  unfold Ld.nx
  rw[e2]at h1⊢
  rw[e3]
  exact Nat.sub_add_cancel h1
theorem ZFj{o:Op}(hj:o.isJ=true){a b:Nat}(h:a+Zck o=b):a+o.tk=b+o.pt:=by
 subst h
 cases o <;> first|rfl|cases hj
noncomputable def MadeD(L:List Ld)(line:Int)(k:Nat)(rs:List Rw):Prop:=rs.length=k/\∀i (hi:i < L.length),i < k->∃r,rs[i]?=some r/\RowD L line i L[i] r
theorem MadeD.next{line:Int}{k:Nat}{rs:List Rw}{r:Rw}(h:MadeD L line k rs)(hk:k < L.length)(hr:RowD L line k L[k] r):MadeD L line (k+1) (rs++[r]):=by
 refine⟨by rw[List.length_append,h.1];rfl,λi hi hik=>?_⟩
 rcases Nat.lt_or_eq_of_le (Nat.le_of_lt_succ hik)with e|rfl
 .obtain⟨q,q1,q2⟩:=h.2 i hi e
  exact⟨q,(List.getElem?_append_left (h.1.symm▸e)).trans q1,q2⟩
 .exact⟨r,by rw[<- h.1];exact List.getElem?_concat_length,hr⟩
theorem Zyd{H:List Nat}{j:Nat}(hj:j<=H.length):cut none (some (j:Int)) (H.map nat)=(H.take j).map nat:=by
 show((H.map nat).take (if 0<=(j:Int)then min (j:Int).toNat (H.map nat).length else((j:Int)+(H.map nat).length).toNat)).drop 0=_
 rw[List.drop_zero,if_pos (Int.natCast_nonneg j),Int.toNat_natCast,List.length_map,Nat.min_eq_left hj,List.map_take]
noncomputable abbrev scS(L:List Ld)(y:Bx)(many:Nat)(line:Int)(rs:List Rw)(o11:Option OV):Sg:=[some y.o,some (.f (.lst (L.map Ld.m))),some (.f (.lst ((hs 0 L).map nat))),some (.f (nat many)),some (.f (.int line)),some (.l (rs.map Rw.m)),none,none,none,none,none,o11,none,none]
theorem h00:hgt L 0=0:=by unfold hgt;rw[List.take_zero];rfl
theorem Zmw{many:Nat}{line:Int}{rs:List Rw}{ks:List Ct}(hL:Lay L)(hy:y.ok M b)(hM:M<=900)(hm0:0 < many)(hm1:many<=L.length)(hmd:MadeD L line L.length rs)(hks:ZHh ((hs 0 L).take many) ks)(H:∀c z,SceneD L many line c->Bx.ok z (M+2) b->K (c.o true) [some z.o,none,none,none,none]):(mg (N+4) (tl (tl (tl ZUj)))).s E (scS L y many line rs (some (.l (ks.map Ct.m)))) (Zgd [TP2.l,TP2.f,TP2.f,TP2.f,TP2.f] K):=by
 have hm7:=Nat.le_trans hm1 hL.len
 have fin:∀(z:Bx) (ss:List Nat),(ss=[0]\/∃s,s < many/\ss=[0,s]/\hgt L s=0)->Bx.ok z (M+2) b->K (Cd.o ⟨rs,ks,ss⟩ true) [some z.o,none,none,none,none]:=λz ss hss hz=>H ⟨rs,ks,ss⟩ z ⟨hmd.1,λi hi=>hmd.2 i hi hi,hks,hss⟩ hz
 conv=>whnf
 refine Za (Jc (Nat.le_trans hm7 (by decide))) ?_
 refine CompP.fm (List.range many) nat (λg=>if((hgt L g:Int)==0)then some (nat g)else none) rfl (λg hg R hR=>?_) ?_
 .conv=>whnf
  refine Za (ZPc (Nat.lt_of_lt_of_le (List.mem_range.mp hg) hm1)) ?_
  refine Za Yt (Zq (λe=>?_) λe=>?_) <;> (rw[e]at hR;exact hR)
 .have hpos:0 < (Qz many λg=>((hgt L g:Int)==0)).length:=Zdt hm0 (by rw[h00];rfl)
  obtain⟨g,s,k,bb⟩:=y
  cases bb
  .conv=>whnf
   refine Jk (n:=3) hy (Nat.le_trans hM (by decide)) (by decide) (by decide) λd z _ hz=>?_
   conv=>whnf
   refine Za Yt (Zq (λ_=>?_) λ_=>?_)
   .refine Jz hz (Nat.succ_le_succ (Nat.le_trans hM (by decide))) hpos (Nat.le_trans Zbw (Nat.le_trans hm7 (by decide))) λm z hm hz=>?_
    obtain⟨s,s1,s2,rfl⟩:=Ur hm
    exact(Zbq (c:=⟨rs,ks,[0,s]⟩) (own:=true)).h (N:=N+2) (fin z [0,s] (.inr ⟨s,s1,rfl,Int.ofNat_inj.mp (eq_of_beq s2)⟩) hz)
   .exact(Zbq (c:=⟨rs,ks,[0]⟩) (own:=true)).h (N:=N+2) (fin z [0] (.inl rfl) (hz.mono (Nat.le_succ _)))
  .exact(Zbq (c:=⟨rs,ks,[0]⟩) (own:=true)).h (N:=N+2) (fin _ [0] (.inl rfl) (hy.mono (Nat.le_add_right ..)))
theorem Zpt{many:Nat}{line:Int}(hL:Lay L)(hy:y.ok M b)(hM:M<=800)(hm0:0 < many)(hm1:many<=L.length)(H:∀c z,SceneD L many line c->Bx.ok z (M+20) b->K (c.o true) [some z.o,none,none,none,none]):CallP (N+5) E 667 [y.o,.f (.lst (L.map Ld.m)),.f (.lst ((hs 0 L).map nat)),.f (nat many),.f (.int line)] K:=.of ZVo _ rfl (by
 refine ForP.ex L.zipIdx (λx=>.tup [nat x.2,x.1.m]) (λk σ=>∃z rs,MadeD L line k rs/\Bx.ok z (M+k) b/\σ=scS L z many line rs none) id _ (congrArg (·,_) Zay) ⟨y,[],⟨rfl,λi _ h=>absurd h (Nat.not_lt_zero i)⟩,hy,rfl⟩ (λk hk σ z R HR=>?_) λσ z=>?_
 .obtain⟨z,rs,hmd,hz,e⟩:=z
  subst e
  rw[List.length_zipIdx]at hk
  rw[List.getElem_zipIdx,Nat.zero_add]
  have hJ:=hL.jmp k hk
  have hge:=ZFk hL hk
  have hM':M+k<=808:=Nat.add_le_add hM (Nat.le_trans (Nat.le_of_lt hk) (Nat.le_trans hL.len (show 7<=8 by decide)))
  have hl:(rs.map Rw.m).length < Zb:=by rw[List.length_map,hmd.1];exact Nat.lt_of_lt_of_le hk (Nat.le_trans hL.len (by decide))
  have fin:∀(r:Rw) (z:Bx),RowD L line k L[k] r->Bx.ok z (M+(k+1)) b->R (scS L z many line (rs++[r]) none):=λr z hr hz=>HR _ ⟨z,rs++[r],hmd.next hk hr,hz,rfl⟩
  simp only[scS,<- Yv]at fin
  have hdd:∃d,d=L[k]:=⟨_,rfl⟩
  obtain⟨d,hd⟩:=hdd
  rw[<- hd]at hJ fin⊢
  conv=>whnf
  refine Za (ZKk d.op) (Za (ZKl d.op) ?_)
  cases hj:d.op.isJ
  .conv=>whnf
   refine(Qw (o:=d.op)).h (Zv (decide_eq_true hl) ?_)
   exact fin ⟨d.op,d.a,d.b,line+k⟩ z ⟨rfl,rfl,λ_=>⟨rfl,rfl⟩,λe=>absurd (hj.symm.trans e) Bool.false_ne_true⟩ (hz.mono (Nat.le_succ _))
  .obtain⟨hb,hcase⟩:=hJ hj
   have nj:∀{P:Prop},d.op.isJ=false->P:=λe=>absurd (e.symm.trans hj) Bool.false_ne_true
   rcases hcase with ha|⟨q,ha,hq1,hq2⟩
   .conv=>whnf
    rw[ha,hb]
    refine ZJv (i:=k) hz (Nat.le_trans hM' (by decide)) hL.len hk hge λg z g1 g2 hz=>?_
    rw[<- hd]at g2
    refine(Qw (o:=d.op)).h (Zv (decide_eq_true hl) ?_)
    exact fin ⟨d.op,nat g,.none,line+k⟩ z ⟨rfl,rfl,nj,λ_=>⟨rfl,rfl,g1,ZFj hj g2⟩⟩ hz
   .conv=>whnf
    rw[ha,hb]
    refine(Qw (o:=d.op)).h (Zv (decide_eq_true hl) ?_)
    exact fin ⟨d.op,nat (k+q),.none,line+k⟩ z ⟨rfl,rfl,nj,λ_=>⟨rfl,rfl,hq1,hq2⟩⟩ (hz.mono (Nat.le_succ _))
 .obtain⟨y,rs,hmd,hy,e⟩:=z
  subst e
  rw[List.length_zipIdx]at hmd hy
  have h7:=hL.len
  have hy:y.ok (M+7) b:=hy.mono (Nat.add_le_add_left h7 M)
  have hH:((hs 0 L).take many).length=many:=by rw[List.length_take,Uc,Nat.min_eq_left hm1]
  have hm7:=Nat.le_trans hm1 h7
  have go:∀(z:Bx) (ks:List Ct),ZHh ((hs 0 L).take many) ks->Bx.ok z (M+7+5) b->_:=λz ks hks hz=>Zmw (N:=N) (E:=E) hL hz (show M+7+5<=900 from Nat.le_trans (Nat.add_le_add_right (Nat.add_le_add_right hM 7) 5) (by decide)) hm0 hm1 hmd hks λc z hc hz=>H c z hc (hz.mono (Nat.add_le_add_left (show 14<=20 by decide) M))
  have hM':M+7<=890:=Nat.le_trans (Nat.add_le_add_right hM 7) (by decide)
  have c:=Zyd (H:=hs 0 L) (j:=many) (by rw[Uc];exact hm1)
  obtain⟨g,s,k,bb⟩:=y
  cases bb
  .conv=>whnf
   rw[c]
   exact Zks (sure:=false) hy hM' (hH.symm▸hm0) (hH.symm▸hm7) λks z hks hz=>go z ks hks hz
  .conv=>whnf
   rw[c]
   exact Zks hy hM' (hH.symm▸hm0) (hH.symm▸hm7) λks z hks hz=>go z ks hks hz)
end
section
noncomputable def Ct.mv(d:Nat)(k:Ct):Ct:=⟨k.sort,k.first+d,k.last+d,k.target+d,k.depth⟩
noncomputable def Rw.mv(d:Nat)(r:Rw):Rw:=r.re (·+d)
noncomputable def jn(A S:Cd)(sk:Nat):Cd:=⟨A.rows++S.rows.map (·.mv A.rows.length),A.catches++S.catches.map (·.mv A.rows.length),A.starts++(S.starts.drop sk).map (·+A.rows.length)⟩
noncomputable def mvs(d:Nat)(T:Rows):Rows:=T.map (Option.map (·.mv d))
structure Oo(A:Cd):Prop where
 jmp:∀r∈A.rows,r.op.isJ=true->r.a=nat r.t/\r.t<=A.rows.length
 cat:∀k∈A.catches,k.first<=A.rows.length/\k.last<=A.rows.length/\k.target<=A.rows.length
 sta:∀s∈A.starts,s<=A.rows.length
variable{A S:Cd}{B T:Rows}{sk m:Nat}
theorem Xa{r:Rw}{d:Nat}:(r.mv d).op=r.op:=Zgv
theorem ZPx{r:Rw}{d e:Nat}{f g:Nat->Nat}(h:∀t,f (t+d)=g t+e):(r.mv d).re f=(r.re g).mv e:=by
 unfold Rw.mv
 by_cases hj:r.op.isJ=true
 .have e1:∀(q:Rw) f,q.op.isJ=true->q.re f=q.to (f q.t):=λq f h=>by unfold Rw.re;rw[if_pos h]
  rw[e1 r _ hj,e1 r _ hj,e1 (r.to _) _ hj,e1 (r.to _) _ hj]
  have ht:∀n:Nat,(r.to n).t=n:=λn=>rfl
  rw[ht,ht,h];rfl
 .have e1:∀f,r.re f=r:=λf=>by unfold Rw.re;rw[if_neg hj]
  rw[e1,e1,e1,e1]
theorem Zbv{i:Nat}(h:i<=B.length):plc (B++T) i=plc B i:=by unfold plc;rw[List.take_append_of_le_length h]
theorem Zwe{i:Nat}:plc (B++T) (i+B.length)=plc T i+kept B:=by
 unfold plc kept
 rw[Nat.add_comm i,List.take_length_add_append,List.filterMap_append,List.length_append,Nat.add_comm]
theorem ZAc{d:Nat}:(mvs d T).filterMap id=(T.filterMap id).map (·.mv d):=by
 unfold mvs
 induction T with
 |nil=>rfl
 |cons a T ih=>cases a <;> simp[ih]
theorem ZDe{d i:Nat}:plc (mvs d T) i=plc T i:=by
 unfold plc
 rw[show(mvs d T).take i=mvs d (T.take i)by unfold mvs;rw[List.map_take],ZAc,List.length_map]
theorem ZDf{t:Nat}:plc (B++mvs B.length T) (t+B.length)=plc T t+kept B:=by rw[Zwe,ZDe]
theorem Zvt{r:Rw}{f g:Nat->Nat}(h:r.op.isJ=true->f r.t=g r.t):r.re f=r.re g:=by
 unfold Rw.re
 split
 .rename_i hj;rw[h hj]
 .rfl
theorem Ju(oa:Oo A)(hl:B.length=A.rows.length)(hj:∀r,some r∈B->r.op.isJ=true->r.t<=B.length):(jn A S sk).pressed (B++mvs A.rows.length T)=jn (A.pressed B) (S.pressed T) sk:=by
 have hk:(A.pressed B).rows.length=kept B:=Yg
 refine Cd.ext ?_ ?_ ?_
 .show((B++mvs A.rows.length T).filterMap id).map _=_++_
  rw[hk,<- hl,List.filterMap_append,List.map_append,ZAc,List.map_map]
  congr 1
  .refine List.map_congr_left λr hr=>Zvt λh=>Zbv (hj r ?_ h)
   obtain⟨o,ho,e⟩:=List.mem_filterMap.mp hr
   rw[<- show o=some r from e];exact ho
  .show _=((T.filterMap id).map _).map _
   rw[List.map_map]
   exact List.map_congr_left λr hr=>ZPx λt=>ZDf
 .show(A.catches++S.catches.map _).filterMap _=_++_
  rw[hk,<- hl,List.filterMap_append,List.filterMap_map]
  congr 1
  .refine Uf λk hk=>?_
   obtain⟨h1,h2,h3⟩:=oa.cat k hk
   unfold Ct.re
   rw[Zbv (hl.symm▸h1),Zbv (hl.symm▸h2),Zbv (hl.symm▸h3)]
  .show _=(S.catches.filterMap _).map _
   rw[List.map_filterMap]
   refine Uf λk hk=>?_
   show Ct.re (Ct.mv _ k) _=_
   unfold Ct.re Ct.mv
   simp only[ZDf]
   by_cases hc:plc T k.first < plc T k.last
   .rw[if_pos hc,if_pos (Nat.add_lt_add_right hc _)];rfl
   .rw[if_neg hc,if_neg λq=>hc (Nat.lt_of_add_lt_add_right q)];rfl
 .show(A.starts++(S.starts.drop sk).map _).map _=_++_
  rw[hk,<- hl,List.map_append,List.map_map]
  congr 1
  .exact List.map_congr_left λs hs=>Zbv (by rw[hl];exact oa.sta s hs)
  .show _=((S.starts.map _).drop sk).map _
   rw[<- List.map_drop,List.map_map]
   exact List.map_congr_left λs hs=>ZDf
end
section
variable{c F S:Cd}{r:Rw}{d sk:Nat}
theorem ZXp(h:r.op.isJ=true):r.mv d=r.to (r.t+d):=if_pos h
theorem ZXo(h:r.op.isJ=false):r.mv d=r:=if_neg (by rw[h];exact Bool.false_ne_true)
theorem mm{α β γ:Type}{f:β->γ}{g:α->β}{l:List α}:l.map (λx=>f (g x))=(l.map g).map f:=List.map_map.symm
noncomputable abbrev mvS(S:Cd)(d k:Nat):Sg:=[some (.f S.m),some (.f (nat d)),some (.l ((S.rows.map (·.mv d)).map Rw.m)),some (.l ((S.catches.take k).map λc=>(c.mv d).m)),none]
theorem Zpx(hj:∀r∈S.rows,r.op.isJ=true->r.a=nat r.t)(hc:S.catches.length<=Zb):Ret 2 679 [.f S.m,.f (nat d)] (.f (.tup [.lst ((S.rows.map (·.mv d)).map Rw.m),.lst ((S.catches.map (·.mv d)).map Ct.m)])) [none,none]:=.of ZVm _ rfl λN E K hK=>by
 refine CompP.mp S.rows Rw.m (λr=>(r.mv d).m) rfl (λr hr R hR=>?_) ?_
 .conv=>whnf
  refine Za (ZKk r.op) (Za (ZKl r.op) ?_)
  cases h:r.op.isJ
  .rw[ZXo h]at hR
   exact(Qw (o:=r.op)).h hR
  .rw[ZXp h]at hR
   conv=>whnf
   rw[hj r hr h]
   exact(Qw (o:=r.op)).h hR
 .rw[show S.rows.map (λr=>(r.mv d).m)=(S.rows.map (·.mv d)).map Rw.m from mm]
  refine ForP.st S.catches Ct.m (mvS S d) rfl (λk hk R Q hQ=>?_) ?_
  .rw[mvS,<- Zkj hk]at hQ
   conv=>whnf
   exact(Zix (s:=S.catches[k].sort)).h (Zv (decide_eq_true (Zve hk hc)) hQ)
  .rw[mvS,List.take_length,show S.catches.map (λr=>(r.mv d).m)=(S.catches.map (·.mv d)).map Ct.m from mm]
   exact hK
noncomputable def bdy(c:Cd):Cd:=⟨c.rows.filter λr=>!Xn r.a,c.catches,c.starts⟩
theorem Zqw{v:MV}(h:Jf v):Ym .NotEq v (.f (.str (Str.ofString "Seam")))=some (!Xn v):=by
 have e:Zil v (.str (Str.ofString "Seam"))=some (PyData.eqv (pyD v) (.str (Str.ofString "Seam"))):=by
  unfold Zil
  rw[Zen h,Zdn];rfl
 refine(congrArg (Option.map (!·)) e).trans (congrArg (λb=>some !b) ?_)
 cases v with
 |str s=>exact Zxv
 |_=>first|exact h.elim|(unfold pyD PyData.eqv;rfl)
theorem Zap{x y:List MV}(h:x.length+y.length<=Zb):Zcs .Add (.lst x) (.lst y)=some (.l (x++y)):=if_pos h
theorem Zyf{l:List MV}{i:Nat}(h:i<=l.length):cut (some (i:Int)) none l=l.drop i:=by
 show(l.take l.length).drop (if 0<=(i:Int)then min (i:Int).toNat l.length else((i:Int)+l.length).toNat)=_
 rw[List.take_length,if_pos (Int.natCast_nonneg i),Int.toNat_natCast,Nat.min_eq_left h]
theorem Zcq{α β:Type}{p:α->Bool}{f:α->β}{l:List α}:l.filterMap (λr=>if p r then some (f r)else none)=(l.filter p).map f:=by
 induction l with
 |nil=>rfl
 |cons a l ih=>
  rw[List.filterMap_cons,List.filter_cons,ih]
  cases p a <;> rfl
theorem Zex(hF:∀r∈F.rows,r.pl)(fl:F.rows.length<=100)(fc:F.catches.length<=100)(fs:F.starts.length<=100)(hj:∀r∈S.rows,r.op.isJ=true->r.a=nat r.t)(sl:S.rows.length<=100)(hc:S.catches.length<=100)(ss:S.starts.length<=100)(hsk:sk<=S.starts.length):Ret 3 684 [.f F.m,.f S.m,.f (nat sk)] ((jn (bdy F) S sk).o true) [none,none,none]:=.of ZVl _ rfl λN E K hK=>by
 have hbl:(bdy F).rows.length<=100:=Nat.le_trans (List.length_filter_le _ _) fl
 have sum:∀{α β:Type} {f:α->MV} {g:β->MV} {x:List α} {y:List β},x.length<=100->y.length<=100->(x.map f).length+(y.map g).length<=Zb:=λ{α β f g x y} h k=>by
  rw[List.length_map,List.length_map]
  exact Nat.le_trans (Nat.add_le_add h k) (by decide)
 refine CompP.fm F.rows Rw.m (λr=>if !Xn r.a then some r.m else none) rfl (λr hr R hR=>?_) ?_
 .conv=>whnf
  refine Za (Zqw (hF r hr).1) ?_
  cases h:Xn r.a <;> (rw[h]at hR;exact hR)
 .rw[show F.rows.filterMap (λr=>if !Xn r.a then some r.m else none)=(bdy F).rows.map Rw.m from Zcq]
  conv=>whnf
  rw[show MV.int ((bdy F).rows.map Rw.m).length=nat (bdy F).rows.length by rw[List.length_map];rfl]
  refine(Zpx (S:=S) (d:=(bdy F).rows.length) hj (Nat.le_trans hc (by decide))).h ?_
  conv=>whnf
  rw[Zyf (by rw[List.length_map];exact hsk)]
  refine CompP.mp (S.starts.drop sk) nat (λs=>nat (s+(bdy F).rows.length)) (by rw[List.map_drop]) (λa ha R hR=>hR) ?_
  rw[show(S.starts.drop sk).map (λs=>nat (s+(bdy F).rows.length))=((S.starts.drop sk).map (·+(bdy F).rows.length)).map nat from mm]
  refine Za (Zap (sum fs (by rw[List.length_map,List.length_drop];exact Nat.le_trans (Nat.sub_le ..) ss))) ?_
  rw[<- List.map_append]
  refine Za (Zap (sum hbl (by rw[List.length_map];exact sl))) ?_
  rw[<- List.map_append]
  refine Za (Zap (sum fc (by rw[List.length_map];exact hc))) ?_
  rw[<- List.map_append]
  exact(Zbq (c:=jn (bdy F) S sk) (own:=true)).h hK
end
section
variable{c d:Cd}{r:Rw}
noncomputable def Rp(v:MV):Prop:=∃s,reprOf v=some s/\PyData.strOk s=true
noncomputable def rp(v:MV):Str:=(reprOf v).getD (Str.ofString "")
noncomputable def tr(r:Rw):MV:=.tup [r.op.m,.str (rp r.a),r.b,.none,.int r.line]
noncomputable def tc(k:Ct):MV:=.tup [.str (Str.ofString k.sort),nat k.first,nat k.last,nat k.target,nat k.depth]
noncomputable def Zdb(c:Cd):List MV:=[.str (Str.ofString "method"),.str (Str.ofString "c"),.none,.lst [.str (Str.ofString "x"),.str (Str.ofString "y")],.lst (c.rows.map tr),.lst (c.catches.map tc),.lst (c.starts.map nat),.int 0]
structure Tl(c:Cd):Prop where
 a:∀r∈c.rows,Rp r.a
 b:∀r∈c.rows,Jf r.b
theorem Xd(h:Tl c):Ret 1 689 [.f c.m] (.l (Zdb c)) [none]:=.of ZVk _ rfl λN E K hK=>by
 refine CompP.mp c.rows Rw.m tr rfl (λr hr R hR=>?_) ?_
 .obtain⟨s,hs,_⟩:=h.a r hr
  have hb:builtin "repr" [r.a]=some (.f (.str (rp r.a))):=by
   show(reprOf r.a).map _=_
   unfold rp
   rw[hs];rfl
  conv=>whnf
  exact Za hb hR
 .exact CompP.mp c.catches Ct.m tc rfl (λk hk R hR=>hR) hK
noncomputable def Py(n:Nat)(v:MV):Prop:=∃x,Zdc n v=some x/\PyData.eqv x x=true
noncomputable def Pys(n:Nat)(l:List MV):Prop:=∃x,Yx n l=some x/\PyData.eqvAll x x=true
theorem Pys.nil{n:Nat}:Pys n []:=⟨[],rfl,by unfold PyData.eqvAll;rfl⟩
theorem Pys.cons{n:Nat}{v:MV}{l:List MV}(h:Py n v)(k:Pys n l):Pys n (v::l):=by
 obtain⟨x,h1,h2⟩:=h
 obtain⟨y,k1,k2⟩:=k
 refine⟨x::y,?_,by rw[PyData.eqvAll,h2,k2];rfl⟩
 show(Zdc n v).bind _=_
 rw[h1]
 show(Yx n l).map _=_
 rw[k1];rfl
theorem Pys.all{α:Type}{n:Nat}{l:List α}{f:α->MV}(h:∀a∈l,Py n (f a)):Pys n (l.map f):=by
 induction l with
 |nil=>exact .nil
 |cons a l ih=>exact .cons (h a List.mem_cons_self) (ih λb hb=>h b (List.mem_cons_of_mem _ hb))
theorem Py.tup{n:Nat}{l:List MV}(h:Pys n l):Py (n+1) (.tup l):=by
 obtain⟨x,h1,h2⟩:=h
 refine⟨.tuple x,?_,by rw[PyData.eqv];exact h2⟩
 show(Yx n l).map _=_
 rw[h1];rfl
theorem Py.lst{n:Nat}{l:List MV}(h:Pys n l):Py (n+1) (.lst l):=by
 obtain⟨x,h1,h2⟩:=h
 refine⟨.list x,?_,by rw[PyData.eqv];exact h2⟩
 show(Yx n l).map _=_
 rw[h1];rfl
theorem Zqa{n:Nat}{v:MV}(h:Jf v):Py n v:=by
 refine⟨pyD v,Zen h,?_⟩
 cases v with
 |none=>unfold pyD PyData.eqv;rfl
 |bool b=>unfold pyD PyData.eqv;exact beq_self_eq_true b
 |int i=>unfold pyD PyData.eqv;exact beq_self_eq_true i
 |str s=>unfold pyD PyData.eqv;exact beq_self_eq_true s
 |_=>exact h.elim
theorem ZHl{n:Nat}{s:String}:Py n (.str (Str.ofString s)):=Zqa (v:=.str _) (sok s)
theorem ZQf{n:Nat}{i:Int}:Py n (.int i):=Zqa (v:=.int i) trivial
theorem ZHm{n i:Nat}:Py n (nat i):=ZQf
theorem ZDa{n:Nat}:Py n .none:=Zqa (v:=.none) trivial
theorem ZPu{v:MV}(h:Rp v):PyData.strOk (rp v)=true:=by
 obtain⟨s,h1,h2⟩:=h
 unfold rp;rw[h1];exact h2
theorem Um{n:Nat}(h:Tl c):Py (n+3) (.lst (Zdb c)):=
 .lst (.cons ZHl (.cons ZHl (.cons ZDa (.cons (.lst (.cons ZHl (.cons ZHl .nil))) (.cons (.lst (.all λr hr=>.tup (.cons ZHl (.cons (Zqa (v:=.str _) (ZPu (h.a r hr))) (.cons (Zqa (h.b r hr)) (.cons ZDa (.cons ZQf .nil))))))) (.cons (.lst (.all λk _=>.tup (.cons ZHl (.cons ZHm (.cons ZHm (.cons ZHm (.cons ZHm .nil))))))) (.cons (.lst (.all λ_ _=>ZHm)) (.cons ZQf .nil))))))))
theorem Zlk{v:MV}(h:Py Zr v):Zil v v=some true:=by
 obtain⟨x,h1,h2⟩:=h
 unfold Zil
 rw[h1]
 exact congrArg some h2
theorem Zcc{v:MV}{o:OV}(h:Py Zr v)(e:o.frz=v):Ym .NotEq v o=some false:=by
 show(Zil v o.frz).map _=_
 rw[e,Zlk h];rfl
theorem Zjq{v:MV}{o:OV}(h:Py Zr v)(e:o.frz=v):Ym .Eq v o=some true:=by
 show meq v o.frz=_
 rw[e]
 have m:=Zlk h
 cases v with
 |lst l=>cases l with
  |nil=>rfl
  |cons a l=>exact m
 |_=>exact m
end
section
variable{c:Cd}{n p q:Nat}{ms:List Nat}{f g:Nat->Bool}
theorem Zhk(h:∀i,f i=true->g i=true):Qk n g<=Qk n f:=by
 induction n with
 |zero=>exact Nat.le_refl _
 |succ n ih=>
  refine Nat.add_le_add ih ?_
  have:=h n
  revert this
  cases f n <;> cases g n <;> intro h <;> first|decide|exact absurd (h rfl) Bool.false_ne_true
theorem ZEl(h:∀i,f i=true->g i=true)(hq:q < n)(h1:f q=false)(h2:g q=true):Qk n g < Qk n f:=
 Nat.lt_of_le_of_lt (Zhk (f:=λi=>f i||i==q) λi e=>(Znb.mp e).elim (h i) λe=>e▸h2) (Nat.lt_of_succ_le (Nat.le_of_eq (Ua h1 hq)))
noncomputable def gls(c:Cd)(p:Nat):List Nat:=c.hit p++(match c.rows[p]? with|some r=>r.nx p|none=>[])
theorem ZFl(h:p < c.rows.length):gls c p=c.hit p++c.rows[p].nx p:=by unfold gls;rw[List.getElem?_eq_getElem h]
theorem Zjl(hp:p < c.rows.length):q∈gls c p↔q∈c.succ p:=by
 rw[ZFl hp,Zgm hp,List.mem_append,List.mem_append]
 exact or_comm
theorem Zsh(ok:Ok c)(hp:p < c.rows.length):(gls c p).length<=12:=by
 rw[ZFl hp,List.length_append]
 exact Nat.add_le_add (Zjk ok) ZAa
theorem Uk{l:List Nat}:Zdl (nat q) (l.map nat)=some (l.contains q):=by
 have e:Yx Zr (l.map nat)=some (l.map λx:Nat=>PyData.int (x:Int)):=by
  induction l with
  |nil=>rfl
  |cons a l ih=>
   show(Yx Zr (l.map nat)).map _=_
   rw[ih];rfl
 show(Yx Zr (l.map nat)).map _=_
 rw[e]
 refine congrArg some ?_
 clear e
 induction l with
 |nil=>rfl
 |cons a l ih=>
  show(PyData.eqv (.int a) (.int q)||(l.map λx:Nat=>PyData.int (x:Int)).any _)=_
  rw[show PyData.eqv (.int a) (.int q)=(q==a)from by unfold PyData.eqv;rw[Bool.eq_iff_iff,beq_iff_eq,beq_iff_eq];exact Int.ofNat_inj.trans eq_comm]
  exact(congrArg (_||·) ih).trans List.contains_cons.symm
theorem ZDu{l:List Nat}:Ym .NotIn (nat q) (.f (.lst (l.map nat)))=some (!l.contains q):=congrArg (Option.map (!·)) Uk
theorem ZLy{l:List Nat}:Ym .In (nat q) (.f (.lst (l.map nat)))=some (l.contains q):=Uk
theorem Zrz{l:List Nat}:Ym .In (nat q) (.l (l.map nat))=some (l.contains q):=Uk
theorem Zwj{l:List Nat}:Ym .NotIn (nat q) (.l (l.map nat))=some (!l.contains q):=congrArg (Option.map (!·)) Uk
theorem ZSh(o:Op):["jump","leave","fail"].contains o.n=o.isEnd:=by cases o <;> rfl
noncomputable def fresh(c:Cd)(ms:List Nat)(p:Nat):List Nat:=(gls c p).filter λq=>!ms.contains q
structure Met(c:Cd)(ms:List Nat):Prop where
 r:∀q∈ms,Reach c q
 s:∀q∈c.starts,q∈ms
 l:ms.length+12*Qk c.rows.length (λi=>ms.contains i)<=800
theorem Zlz(ok:Ok c)(hp:p < c.rows.length)(h:fresh c ms p≠[]):Qk c.rows.length (λi=>(ms++fresh c ms p).contains i) < Qk c.rows.length λi=>ms.contains i:=by
 obtain⟨q,hq⟩:=List.exists_mem_of_ne_nil _ h
 obtain⟨q1,q2⟩:=List.mem_filter.mp hq
 exact ZEl (λi e=>List.contains_iff_mem.mpr (List.mem_append_left _ (List.contains_iff_mem.mp e))) (Zbj ok ((Zjl hp).mp q1)) (Bool.not_eq_true' _▸q2) (List.contains_iff_mem.mpr (List.mem_append_right _ hq))
theorem wl2{a b L L' X:Nat}(h3:a+12*L<=X)(h1:L' < L)(h2:b<=12):a+b+12*L'<=X:=by
 refine Nat.le_trans ?_ h3
 rw[Nat.add_assoc]
 exact Nat.add_le_add_left (Nat.le_trans (Nat.add_le_add_right h2 _) (Nat.le_trans (Nat.le_of_eq (Nat.add_comm 12 _)) (Nat.mul_le_mul_left 12 h1))) a
theorem Met.add(ok:Ok c)(h:Met c ms)(hp:p∈ms):Met c (ms++fresh c ms p)/\∀q∈c.succ p,q∈ms++fresh c ms p:=by
 have hpl:=(h.r p hp).lt ok
 refine⟨⟨λq hq=>(List.mem_append.mp hq).elim (h.r q) λz=>.step (h.r p hp) ((Zjl hpl).mp (List.mem_filter.mp z).1),λq hq=>List.mem_append_left _ (h.s q hq),?_⟩,λq hq=>?_⟩
 .by_cases e:fresh c ms p=[]
  .rw[e,List.append_nil];exact h.l
  .have h1:=Zlz ok hpl e
   rw[List.length_append]
   exact wl2 h.l h1 (Nat.le_trans (List.length_filter_le (λq=>!ms.contains q) _) (Zsh ok hpl))
 .cases e:ms.contains q
  .exact List.mem_append_right _ (List.mem_filter.mpr ⟨(Zjl hpl).mpr hq,by rw[e];rfl⟩)
  .exact List.mem_append_left _ (List.contains_iff_mem.mp e)
theorem Met.done(h:Met c ms)(hc:∀p∈ms,∀q∈c.succ p,q∈ms)(q:Nat):q∈ms↔Reach c q:=by
 refine⟨h.r q,λr=>?_⟩
 induction r with
 |start hs=>exact h.s _ hs
 |step _ hq ih=>exact hc _ ih _ hq
noncomputable def IsL(v:OV)(l:List MV):Prop:=v=.l l\/v=.f (.lst l)
theorem ZRp{r:Rw}(h:r.op.isJ=true->r.a=nat r.t):(if r.op.isJ then[r.a]else[])=(if r.op.isJ then[r.t]else[]).map nat:=by
 cases hj:r.op.isJ
 .rfl
 .rw[if_pos rfl,if_pos rfl,h hj];rfl
noncomputable def ZTe:CE:=cl [.as (.tn 4) (.sub (.fd (.v 0) "rows") (Mine.v 3)),.as (.tn 5) (.comp (vf 2 "target") (.n 2) (.ite (vf 0 "catches")) (.so (.cmp (vf 2 "first") (.c2 .LtE (Mine.v 0) (.c1 .Lt (vf 2 "last"))))) [3] 2),.as (.tn 5) (.bin .Add (Mine.v 5) (.ife (.cmp (.sl (.fd (.v 4) "op") .nil (.so (ki 4))) (.c1 .Eq (ks "jump"))) (.lst (cl [vf 4 "a"])) (.lst .nil))),.as (.tn 5) (.bin .Add (Mine.v 5) (.ife (.cmp (vf 4 "op") (.c1 .In (.lst (cl [(ks "jump"),(ks "leave"),(ks "fail")])))) (.lst .nil) (.lst (cl [.bin .Add (Mine.v 3) (ki 1)])))),.as (.tn 1) (.bin .Add (Mine.v 1) (.comp (Mine.v 2) (.n 2) (.ite (Mine.v 5)) (.so (.cmp (Mine.v 2) (.cp .NotIn (.v 0)))) [1] 2))]
theorem Zvb{N:Nat}{E:Prop}{Q:Fl->Sg->Prop}{v:OV}{k:Int}(ok:Ok c)(hm:Met c ms)(hp:p∈ms)(hv:IsL v (ms.map nat))(H:∀o4 o5,Q .next [some (.f c.m),some (.l ((ms++fresh c ms p).map nat)),some (.f (.int k)),some (.f (nat p)),o4,o5]):
  (mg N ZTe).s E [some (.f c.m),some v,some (.f (.int k)),some (.f (nat p)),none,none] Q:=by
 have hpl:=(hm.r p hp).lt ok
 have hml:ms.length<=800:=Nat.le_trans (Nat.le_add_right ..) hm.l
 have hgl:=Zsh ok hpl
 have hfl:(fresh c ms p).length<=12:=Nat.le_trans (List.length_filter_le _ _) hgl
 have hhl:=Zjk ok (p:=p)
 have ge:=ZFl hpl
 unfold Rw.nx at ge
 have ja:=ZRp (r:=c.rows[p]) λh=>(ok.jmp _ (List.getElem_mem hpl) h).1
 have ad:∀{x y:List Nat} {b:Nat},x.length<=900->y.length<=100->Zcs .Add (.lst (x.map nat)) (.lst (y.map nat))=some (.l ((x++y).map nat)):=λ{x y b} hx hy=>(Zap (by rw[List.length_map,List.length_map];exact Nat.le_trans (Nat.add_le_add hx hy) (by decide))).trans (by rw[List.map_append])
 have last:∀{r},(mg N (cl [.as (.tn 1) (.bin .Add (Mine.v 1) (.comp (Mine.v 2) (.n 2) (.ite (Mine.v 5)) (.so (.cmp (Mine.v 2) (.cp .NotIn (.v 0)))) [1] 2))])).s E [some (.f c.m),some v,some (.f (.int k)),some (.f (nat p)),r,some (.l ((gls c p).map nat))] Q:=λ{r}=>by
  refine(λmain=>by rcases hv with rfl|rfl <;> (conv=>whnf) <;> exact main) ?_
  refine CompP.fm (gls c p) nat (λq=>if !ms.contains q then some (nat q)else none) rfl (λq _ R hR=>?_) ?_
  .conv=>whnf
   refine Za ZDu (Zq (λe=>?_) λe=>?_) <;> (rw[e]at hR;exact hR)
  .rw[Zcq]
   exact Za (ad (b:=0) (Nat.le_trans hml (by decide)) (Nat.le_trans hfl (by decide))) (H _ _)
 conv=>whnf
 refine Za (Zal hpl) ?_
 refine CompP.fm c.catches Ct.m (λk=>if k.cov p then some (nat k.target)else none) rfl (λk _ R hR=>?_) ?_
 .unfold Ct.cov at hR
  conv=>whnf
  refine Zq (λe=>?_) λe=>?_ <;> rw[ZRg]at e <;> rw[e]at hR
  .conv=>whnf
   refine Zq (λe=>?_) λe=>?_ <;> rw[ZOz]at e <;> (rw[e]at hR;exact hR)
  .exact hR
 .rw[Zcq,show(c.catches.filter (·.cov p)).map (λk=>nat k.target)=(c.hit p).map nat from mm]
  have nil:([]:List MV)=([]:List Nat).map nat:=rfl
  have two:∀{l:List Nat},l.length<=1->(c.hit p++l).length<=900:=λh=>by rw[List.length_append];exact Nat.le_trans (Nat.add_le_add hhl h) (by decide)
  refine Za (ZKk _) (Za (ZKl _) ?_)
  have fin:∀{l:List Nat} {o:Option OV},l=(if c.rows[p].op.isJ then[c.rows[p].t]else[])->l.length<=1->(mg N (cl [.as (.tn 5) (.bin .Add (Mine.v 5) (.ife (.cmp (vf 4 "op") (.c1 .In (.lst (cl [(ks "jump"),(ks "leave"),(ks "fail")])))) (.lst .nil) (.lst (cl [.bin .Add (Mine.v 3) (ki 1)])))),.as (.tn 1) (.bin .Add (Mine.v 1) (.comp (Mine.v 2) (.n 2) (.ite (Mine.v 5)) (.so (.cmp (Mine.v 2) (.cp .NotIn (.v 0)))) [1] 2))])).s E [some (.f c.m),some v,some (.f (.int k)),some (.f (nat p)),some (.f c.rows[p].m),some (.l ((c.hit p++l).map nat))] Q:=λ{l o} e hl=>by
   rw[<- e,<- List.append_assoc]at ge
   refine Za (Zcm c.rows[p].op.n ["jump","leave","fail"]) ?_
   rw[ZSh]
   cases he:c.rows[p].op.isEnd <;> rw[he]at ge
   .exact Za (a:=.l ((gls c p).map nat)) ((ad (y:=[p+1]) (b:=0) (two hl) (Nat.le_of_ble_eq_true rfl)).trans (by rw[ge];rfl)) last
   .exact Za (a:=.l ((gls c p).map nat)) ((ad (y:=[]) (b:=0) (two hl) (by decide)).trans (by rw[ge];rfl)) last
  cases hj:c.rows[p].op.isJ <;> rw[hj]at fin ja
  .exact Za (ad (y:=[]) (b:=0) (Nat.le_trans hhl (by decide)) (by decide)) (fin (o:=none) rfl (by decide))
  .have ja:[c.rows[p].a]=[c.rows[p].t].map nat:=ja
   conv=>whnf
   rw[ja]
   exact Za (ad (y:=[c.rows[p].t]) (b:=0) (Nat.le_trans hhl (by decide)) (Nat.le_of_ble_eq_true rfl)) (fin (o:=none) rfl (Nat.le_refl 1))
theorem ZJs{N:Nat}{E:Prop}{K:OV->List (Option OV)->Prop}(ok:Ok c)(H:∀ms:List Nat,(∀q,q∈ms↔Reach c q)->K (.f (.lst (ms.map nat))) [none]):CallP (N+1) E 694 [.f c.m] K:=.of ZVj _ rfl (by
 have ll:∀{f:Nat->Bool},Qk c.rows.length f<=60:=Nat.le_trans Zci ok.len
 refine WhileP.ex (λk σ=>∃v ms,∃many:Int,IsL v (ms.map nat)/\Met c ms/\((many < ms.length/\Qk c.rows.length (λi=>ms.contains i)+1<=k)\/((ms.length:Int)<=many/\∀p∈ms,∀q∈c.succ p,q∈ms))/\σ=[some (.f c.m),some v,some (.f (.int many)),none,none,none]) id _ 61 (by decide) rfl ⟨_,c.starts,-1,.inl rfl,⟨λq hq=>.start hq,λq hq=>hq,Nat.le_trans (Nat.add_le_add ok.sln (Nat.mul_le_mul_left 12 ll)) (by decide)⟩,.inl ⟨Int.lt_of_lt_of_le (by decide) (Int.natCast_nonneg _),Nat.succ_le_succ ll⟩,rfl⟩ λk σ z R HR=>?_
 obtain⟨v,ms,many,hv,hm,hk,e⟩:=z
 subst e
 have stop:¬many < ms.length->K (.f (.lst (ms.map nat))) [none]:=λe=>H ms (hm.done (hk.resolve_left λz=>e z.1).2)
 have turn:∀k',k=k'+1->many < ms.length->∀{Q:Fl->Sg->Prop},(∀v ms,∀many:Int,IsL v (ms.map nat)->Met c ms->((many < ms.length/\Qk c.rows.length (λi=>ms.contains i)+1<=k')\/((ms.length:Int)<=many/\∀p∈ms,∀q∈c.succ p,q∈ms))->Q .next [some (.f c.m),some v,some (.f (.int many)),none,none,none])->(mg N (.each (.n 3) (.ite (.ty "list" (cl [Mine.v 1]))) ZTe)).s E [some (.f c.m),some v,some (.f (.int (ms.map nat).length)),none,none,none] Q:=by
  intro k' hk' hlt Q hQ
  have hk:=(hk.resolve_right λz=>Int.not_lt.mpr z.1 hlt).2
  refine(λmain=>by rcases hv with rfl|rfl <;> (conv=>whnf) <;> exact main) ?_
  refine ForP.ex ms nat (λj σ=>∃v t,IsL v ((ms++t).map nat)/\Met c (ms++t)/\(t≠[]->Qk c.rows.length (λi=>(ms++t).contains i) < Qk c.rows.length λi=>ms.contains i)/\(∀p∈ms.take j,∀q∈c.succ p,q∈ms++t)/\σ=[some (.f c.m),some v,some (.f (.int (ms.map nat).length)),none,none,none]) id _ rfl ⟨_,[],.inr rfl,(List.append_nil ms).symm▸hm,λh=>absurd rfl h,nofun,by rw[List.append_nil]⟩ (λj hj σ z R HR=>?_) λσ z=>?_
  .obtain⟨v,t,hv,hm',hlt',hcl,e⟩:=z
   subst e
   have hp:ms[j]∈ms++t:=List.mem_append_left _ (List.getElem_mem hj)
   have htk:=List.take_succ_eq_append_getElem hj
   generalize ms[j]=p at hp htk
   obtain⟨a1,a2⟩:=hm'.add ok hp
   refine Zvb ok hm' hp hv λo4 o5=>HR _ ⟨_,t++fresh c (ms++t) p,.inl (by rw[List.append_assoc]),(List.append_assoc ..)▸a1,λh=>?_,λx hx q hq=>?_,rfl⟩
   .rw[<- List.append_assoc]
    by_cases e:fresh c (ms++t) p=[]
    .rw[e,List.append_nil]at h⊢
     exact hlt' h
    .exact Nat.lt_of_lt_of_le (Zlz ok ((hm'.r p hp).lt ok) e) (Zhk λi e=>List.contains_iff_mem.mpr (List.mem_append_left _ (List.contains_iff_mem.mp e)))
   .rw[htk]at hx
    rw[<- List.append_assoc]
    exact(Zcd hx).elim (λz=>List.mem_append_left _ (hcl x z q hq)) λz=>a2 q (z▸hq)
  .obtain⟨v,t,hv,hm',hlt',hcl,e⟩:=z
   subst e
   rw[List.take_length]at hcl
   refine hQ v (ms++t) _ hv hm' ?_
   rw[List.length_map]
   cases t with
   |nil=>exact .inr ⟨by rw[List.append_nil];exact Int.le_refl _,λp hp=>hcl p (by rwa [List.append_nil]at hp)⟩
   |cons a t=>
    refine .inl ⟨Int.ofNat_lt.mpr (by rw[List.length_append];exact Nat.lt_add_of_pos_right (Nat.succ_pos _)),Nat.le_trans (hlt' (List.cons_ne_nil _ _)) (Nat.le_of_succ_le_succ (Nat.le_trans hk (Nat.le_of_eq hk')))⟩
 have e:(ms.map nat).length=ms.length:=List.length_map _
 have go:many < ms.length->∃j,k=j+1:=λz=>match k,(hk.resolve_right λy=>Int.not_lt.mpr y.1 z).2 with
  |j+1,_=>⟨j,rfl⟩
 rcases hv with rfl|rfl
 all_goals
  refine Zq (λz=>?_) λz=>stop λy=>of_decide_eq_false z (e.symm▸y)
  have z:=of_decide_eq_true z
  rw[e]at z
  obtain⟨j,hj⟩:=go z
  exact⟨j,hj,turn j hj z λv ms many h1 h2 h3=>HR j _ ⟨v,ms,many,h1,h2,h3,rfl⟩⟩)
end
section
variable{c:Cd}{p p0 q:Nat}{ss:List Nat}
structure Pth(c:Cd)(p0:Nat)(ss:List Nat)(p:Nat):Prop where
 run:∀j,c.eoj (ss.length+j) p0=c.eoj j p
 pre:∀i q,ss[i]?=some q->∀j,c.eoj (i+j) p0=c.eoj j q
 lt:p < c.rows.length
 sl:ss.length+Qk c.rows.length (λi=>ss.contains i)<=c.rows.length
theorem Pth.init(h:p0 < c.rows.length):Pth c p0 [] p0:=⟨λj=>congrArg (c.eoj · p0) (Nat.zero_add j),nofun,h,Nat.le_trans (Nat.le_of_eq (Nat.zero_add _)) Zci⟩
theorem Zxx(h:p < c.rows.length)(hj:(c.rows[p].op==.jump)=true)(j:Nat):c.eoj (j+1) p=c.eoj j c.rows[p].t:=(Ztf h).trans (if_pos hj)
theorem Zxw(h:p < c.rows.length)(hj:(c.rows[p].op==.jump)=false)(j:Nat):c.eoj (j+1) p=some p:=(Ztf h).trans (if_neg (by rw[hj];exact Bool.false_ne_true))
theorem ZDq(hn:p ∉ ss):ss.contains p=false:=Bool.eq_false_iff.mpr λe=>hn (List.contains_iff_mem.mp e)
theorem Zch(hp:p < c.rows.length)(hn:p ∉ ss):Qk c.rows.length (λi=>(ss++[p]).contains i)+1=Qk c.rows.length λi=>ss.contains i:=by
 refine(congrArg (Qk c.rows.length ·+1) (funext λi=>?_)).trans (Ua (f:=λi=>ss.contains i) (ZDq hn) hp)
 rw[Bool.eq_iff_iff,Znb,List.contains_iff_mem,List.contains_iff_mem,List.mem_append,List.mem_singleton]
theorem Pth.next(ok:Ok c)(h:Pth c p0 ss p)(hj:((c.rows[p]'h.lt).op==.jump)=true)(hn:p ∉ ss):Pth c p0 (ss++[p]) (c.rows[p]'h.lt).t:=by
 refine⟨λj=>?_,λi q e j=>?_,(ok.jmp _ (List.getElem_mem h.lt) (ZLr hj)).2,?_⟩
 .rw[List.length_append,Nat.add_assoc,Nat.add_comm [p].length j,h.run]
  exact Zxx h.lt hj j
 .by_cases hi:i < ss.length
  .rw[List.getElem?_append_left hi]at e
   exact h.pre i q e j
  .have hl:=(List.getElem?_eq_some_iff.mp e).1
   rw[List.length_append]at hl
   obtain rfl:=Nat.le_antisymm (Nat.le_of_lt_succ hl) (Nat.le_of_not_lt hi)
   rw[List.getElem?_concat_length]at e
   cases e
   exact h.run j
 .have e:=Zch h.lt hn
  have:=h.sl
  rw[List.length_append]
  exact Nat.le_trans (Nat.le_of_eq ((Nat.add_right_comm ..).trans ((Nat.add_assoc ..).trans (congrArg (ss.length+·) e)))) this
theorem Pth.cyc(h:Pth c p0 ss p)(hp:p∈ss):∀K,c.eoj K p0=none:=by
 obtain⟨i,hi,rfl⟩:=List.mem_iff_getElem.mp hp
 intro K
 induction K using Nat.strongRecOn with
 |ind K ih=>
  by_cases hK:K < ss.length
  .exact(h.pre K ss[K] (List.getElem?_eq_getElem hK) 0).trans rfl
  .have h1:=h.run (K - ss.length)
   have h2:=h.pre i ss[i] (List.getElem?_eq_getElem hi) (K - ss.length)
   rw[Nat.add_sub_cancel' (Nat.le_of_not_lt hK)]at h1
   rw[h1,<- h2]
   exact ih _ (Nat.lt_of_lt_of_eq (Nat.add_lt_add_right hi _) (Nat.add_sub_cancel' (Nat.le_of_not_lt hK)))
theorem Zmd(ok:Ok c){k:Nat}(hp:p < c.rows.length)(h:c.eoj k p=some q){j:Nat}(hj:k<=j):c.eoj j p=some q:=by
 induction k generalizing p j with
 |zero=>cases h
 |succ k ih=>cases j with
  |zero=>exact absurd hj (Nat.not_succ_le_zero k)
  |succ j=>
   rw[Ztf hp]at h⊢
   by_cases e:(c.rows[p].op==.jump)=true
   .rw[if_pos e]at h⊢
    exact ih (ok.jmp _ (List.getElem_mem hp) (ZLr e)).2 h (Nat.le_of_succ_le_succ hj)
   .rw[if_neg e]at h⊢
    exact h
theorem Zlm{f:Nat->Bool}{n:Nat}(hp:p < n)(hf:f p=false):0 < Qk n f:=Ua hf hp▸Nat.succ_pos _
theorem Pth.stop(ok:Ok c)(h0:p0 < c.rows.length)(h:Pth c p0 ss p)(hj:((c.rows[p]'h.lt).op==.jump)=false)(hn:p ∉ ss):c.eoj c.rows.length p0=some p:=
 Zmd ok h0 ((h.run 1).trans (Zxw h.lt hj 0)) (Nat.le_trans (Nat.add_le_add_left (Zlm h.lt (f:=λi=>ss.contains i) (ZDq hn)) _) h.sl)
theorem ZAw(ok:Ok c)(h0:p0 < c.rows.length):(∃q,c.eoj c.rows.length p0=some q)\/∀K,c.eoj K p0=none:=by
 have key:∀t ss p,Pth c p0 ss p->Qk c.rows.length (λi=>ss.contains i)=t->(∃q,c.eoj c.rows.length p0=some q)\/∀K,c.eoj K p0=none:=by
  intro t
  induction t with
  |zero=>
   intro ss p h e
   by_cases hp:p∈ss
   .exact .inr (h.cyc hp)
   .exact absurd e (Nat.ne_of_gt (Zlm h.lt (f:=λi=>ss.contains i) (ZDq hp)))
  |succ t ih=>
   intro ss p h e
   by_cases hp:p∈ss
   .exact .inr (h.cyc hp)
   .cases hj:(c.rows[p]'h.lt).op==.jump with
    |false=>exact .inl ⟨p,h.stop ok h0 hj hp⟩
    |true=>exact ih _ _ (h.next ok hj hp) (Nat.succ.inj ((Zch h.lt hp).trans e))
 exact key _ _ _ (Pth.init h0) rfl
theorem Zjr(ok:Ok c)(h0:p0 < c.rows.length){K:Nat}(hK:c.rows.length<=K):c.eoj K p0=c.eoj c.rows.length p0:=by
 rcases ZAw ok h0 with⟨q,h⟩|h
 .rw[h];exact Zmd ok h0 h hK
 .rw[h,h]
theorem ZQb(ok:Ok c):Ret 1 701 [.f c.m] (.f (ot (c.eoj c.rows.length 0))) [none]:=.of ZVi _ rfl λN E K hK=>by
 refine WhileP.ex (λk σ=>∃ss p,Pth c 0 ss p/\Qk c.rows.length (λi=>ss.contains i)<=k/\σ=[some (.f c.m),some (.f (nat p)),some (.l (ss.map nat))]) id _ 60 (by decide) rfl ⟨[],0,Pth.init ok.pos,Nat.le_trans Zci ok.len,rfl⟩ λk σ z R HR=>?_
 obtain⟨ss,p,h,hk,e⟩:=z
 subst e
 refine Za (Zal h.lt) (Za (Zhu (c.rows[p]'h.lt).op .jump) ?_)
 cases hj:(c.rows[p]'h.lt).op==.jump
 .conv=>whnf
  refine Za Zrz ?_
  cases hc:ss.contains p
  .rw[h.stop ok ok.pos hj λz=>by rw[List.contains_iff_mem.mpr z]at hc;cases hc]at hK
   exact hK
  .rw[h.cyc (List.contains_iff_mem.mp hc)]at hK
   exact hK
 .conv=>whnf
  refine Za Zwj ?_
  cases hc:ss.contains p
  .have hp:p ∉ ss:=λz=>by rw[List.contains_iff_mem.mpr z]at hc;cases hc
   have lp:=Zch h.lt hp
   cases k with
   |zero=>exact absurd (Nat.le_trans (Nat.le_of_eq lp) hk) (Nat.not_succ_le_zero _)
   |succ k=>
    refine⟨k,rfl,?_⟩
    have hl:(ss.map nat).length < Zb:=by rw[List.length_map];exact Nat.lt_of_le_of_lt (Nat.le_trans (Nat.le_add_right ..) h.sl) ok.lt
    refine Zv (decide_eq_true hl) ?_
    conv=>whnf
    rw[Yv]
    refine Za (Zal h.lt) ?_
    conv=>whnf
    rw[(ok.jmp _ (List.getElem_mem h.lt) (ZLr hj)).1]
    exact HR k _ ⟨_,_,h.next ok hj hp,Nat.le_of_succ_le_succ (Nat.le_trans (Nat.le_of_eq lp) hk),rfl⟩
  .conv=>whnf
   refine Za Zrz ?_
   rw[hc]
   rw[h.cyc (List.contains_iff_mem.mp hc)]at hK
   exact hK
end
section
variable{c F S:Cd}{sk:Nat}
noncomputable def gA(F:Cd)(m i:Nat):Option Nat->MV
 |some e=>nat (m+e)
 |none=>((F.rows[i]?).map (·.a)).getD .none
noncomputable def ZAv(one F:Cd)(m:Nat)(g:Option Nat)(i:Nat):Option Rw:=match one.rows[i]? with
 |some r=>if r.op.isJ&&r.t==m then some ⟨r.op,gA F m i g,r.b,r.line⟩else none
 |none=>none
theorem ZFv{one F:Cd}{m i:Nat}{g:Option Nat}(h:i < one.rows.length):ZAv one F m g i=if one.rows[i].op.isJ&&one.rows[i].t==m then some ⟨one.rows[i].op,gA F m i g,one.rows[i].b,one.rows[i].line⟩else none:=by unfold ZAv;rw[List.getElem?_eq_getElem h]
noncomputable def Znr(one F:Cd)(m:Nat)(g:Option Nat):Nat->List Rw->List Rw
 |0,l=>l
 |k+1,l=>match ZAv one F m g k with
  |some r=>(Znr one F m g k l).set k r
  |none=>Znr one F m g k l
theorem Zxp{one F:Cd}{m k:Nat}{g:Option Nat}{l:List Rw}:(Znr one F m g k l).length=l.length:=by
 induction k with
 |zero=>rfl
 |succ k ih=>
  rw[Znr]
  cases ZAv one F m g k with
  |none=>exact ih
  |some r=>exact List.length_set.trans ih
noncomputable def Zmf(x:String×Nat×(Cd->Cd))(F S:Cd)(sk:Nat):Cd:=
 if x.1=="threaded" then⟨Znr (x.2.2 F) F (F.rows.length - 1) (S.eoj S.rows.length 0) (F.rows.length - 1) (jn (bdy (x.2.2 F)) (x.2.2 S) sk).rows,(jn (bdy (x.2.2 F)) (x.2.2 S) sk).catches,(jn (bdy (x.2.2 F)) (x.2.2 S) sk).starts⟩
 else jn (bdy (x.2.2 F)) (x.2.2 S) sk
theorem ZKi:∀x∈Xm,Xm.find? (λy=>y.1==x.1)=some x/\((x.1=="threaded")=true->x.2.2=Cd.threaded):=fm ⟨rfl,λ_=>rfl⟩ (fm ⟨rfl,nofun⟩ (fm ⟨rfl,nofun⟩ (fm ⟨rfl,nofun⟩ (fm ⟨rfl,nofun⟩ (fm ⟨rfl,nofun⟩ (fm ⟨rfl,nofun⟩ (fm ⟨rfl,nofun⟩ (λ_ h=>(List.not_mem_nil h).elim))))))))
theorem Ok.pass{x:Pass}(hx:x∈Xm)(ok:Ok c):Ok (x.2.2 c):=(Zqj x hx).ok ok
theorem Ok.l100(ok:Ok c):c.rows.length<=100/\c.catches.length<=100/\c.starts.length<=100:=⟨Nat.le_trans ok.len (by decide),Nat.le_trans ok.cln (by decide),Nat.le_trans ok.sln (by decide)⟩
noncomputable abbrev ZUf(x:Pass)(F S J:Cd)(sk n:Nat)(g:Option Nat)(k:Nat):Sg:=[some (.f F.m),some (.f S.m),some (.f (nat sk)),some (.f (.str (Str.ofString x.1))),some (.f (x.2.2 F).m),some (.f (x.2.2 S).m),some (Cd.o ⟨Znr (x.2.2 F) F n g k J.rows,J.catches,J.starts⟩ true),some (.f (nat n)),some (.f (ot g)),none,none,none]
theorem Zzv{l:List Rw}{k:Nat}{r:Rw}(h:k < l.length):Zgz (.l (l.map Rw.m)) (nat k) r.m=some (.l ((l.set k r).map Rw.m)):=(Zwb (by rw[List.length_map];exact h)).trans (by rw[List.map_set])
theorem ZQd{x:Pass}(hx:x∈Xm)(okF:Ok F)(okS:Ok S)(hsk:sk<=S.starts.length)(hm:F.rows.length - 1<=(bdy F.threaded).rows.length)(ht:Tl (Zmf x F S sk))(hss:(x.2.2 S).starts.length=S.starts.length):Ret 7 708 [.f F.m,.f S.m,.f (nat sk),.f (.str (Str.ofString x.1))] (.l (Zdb (Zmf x F S sk))) [none,none,none,none]:=.of ZVh _ rfl λN E K hK=>by
 have ok1:=okF.pass hx
 have ok2:=okS.pass hx
 obtain⟨hf,hthr⟩:=ZKi x hx
 have hj:=λr hr h=>(ok2.jmp r hr h).1
 refine(Qt hf okF).h ?_
 conv=>whnf
 refine(Qt hf okS).h ?_
 conv=>whnf
 refine(Zex (F:=x.2.2 F) (S:=x.2.2 S) (sk:=sk) ok1.pln ok1.l100.1 ok1.l100.2.1 ok1.l100.2.2 hj ok2.l100.1 ok2.l100.2.1 ok2.l100.2.2 (hss.symm▸hsk)).h (N:=N+3) ?_
 unfold Zmf at ht hK
 conv=>whnf
 refine Za (Ys _ _) ?_
 cases hb:x.1=="threaded" <;> rw[hb]at ht hK
 .exact(Xd ht).h (N:=N+5) hK
 .have hthr:=hthr hb
  have hl1:(x.2.2 F).rows.length=F.rows.length:=by rw[hthr,Zad okF];exact List.length_map _
  have hlJ:F.rows.length - 1<=(jn (bdy (x.2.2 F)) (x.2.2 S) sk).rows.length:=by
   rw[hthr];unfold jn
   exact Nat.le_trans hm (List.length_append▸Nat.le_add_right ..)
  have hn1:F.rows.length - 1+1=F.rows.length:=Nat.sub_add_cancel okF.pos
  generalize jn (bdy (x.2.2 F)) (x.2.2 S) sk=J at ht hK hlJ⊢
  generalize F.rows.length - 1=n at ht hK hlJ hn1
  conv=>whnf
  refine(ZQb okS).h (N:=N+5) ?_
  generalize S.eoj S.rows.length 0=g at ht hK⊢
  conv=>whnf
  rw[show MV.int (((F.rows.map Rw.m).length:Int) - 1)=nat n by rw[List.length_map,<- hn1];exact congrArg MV.int (Int.add_sub_cancel (n:Int) 1)]
  have hn6:n<=Zb:=Nat.le_trans (Nat.le_succ n) (Nat.le_trans (Nat.le_of_eq hn1) (Nat.le_of_lt okF.lt))
  refine Za (Jc hn6) ?_
  refine ForP.st (List.range n) nat (ZUf x F S J sk n g) rfl (λk hk R Q hQ=>?_) ?_
  .rw[List.length_range]at hk
   rw[List.getElem_range]
   have hk0:k < F.rows.length:=hn1▸Nat.lt_succ_of_lt hk
   have hk1:k < (x.2.2 F).rows.length:=hl1.symm▸hk0
   have hkl:k < (Znr (x.2.2 F) F n g k J.rows).length:=Zxp.symm▸Nat.lt_of_lt_of_le hk hlJ
   rw[ZUf,Znr,ZFv hk1]at hQ
   have hja:=ok1.jmp _ (List.getElem_mem hk1)
   conv=>whnf
   refine Za (Zal hk1) ?_
   generalize (x.2.2 F).rows[k]=r at hja hQ
   generalize Znr (x.2.2 F) F n g k J.rows=l at hQ hkl
   refine Za (ZKk r.op) (Za (ZKl r.op) ?_)
   cases hrj:r.op.isJ <;> rw[hrj]at hQ
   .exact hQ
   .conv=>whnf
    rw[(hja hrj).1]
    refine Za (K:=λb=>ZRo _ _ E _ (.f (.bool b)) _) (Zef (a:=r.t) (b:=n)) ?_
    cases hrt:r.t==n <;> rw[hrt]at hQ
    .exact hQ
    .conv=>whnf
     cases g with
     |none=>
      refine Za (Zal hk0) ?_
      unfold gA at hQ
      rw[List.getElem?_eq_getElem hk0]at hQ
      exact(Qw (o:=r.op)).h (Za (Zzv hkl) hQ)
     |some e=>exact(Qw (o:=r.op)).h (Za (Zzv (r:=⟨r.op,nat (n+e),r.b,r.line⟩) hkl) hQ)
  .rw[List.length_range]
   exact(Xd ht).h (N:=N+5) hK
end
section
variable{c F S:Cd}{sk:Nat}
noncomputable def zed:Cd:=⟨[],[],[0]⟩
noncomputable def Zvf(F S:Cd)(sk:Nat):Cd:=jn (bdy (Cd.rounds 24 F)) (if sk==1&&((Cd.rounds 24 F).rows.filter λr=>Xn r.a).isEmpty then zed else Cd.rounds 24 S) sk
theorem ZGa{v:MV}(h:Jf v):Ym .Eq v (.f (.str (Str.ofString "Seam")))=some (Xn v):=by
 have e:=Zqw h
 obtain⟨q,h3,h4⟩:=Option.map_eq_some_iff.mp (show(Zil v (.str (Str.ofString "Seam"))).map (!·)=some (!Xn v)from e)
 exact h3.trans (congrArg some (by rw[<- Bool.not_not q,h4,Bool.not_not]))
theorem Zvw(okF:Ok F)(okS:Ok S)(hsk:sk=0\/(sk=1/\S.starts.length=1))(hss:(Cd.rounds 24 S).starts.length=S.starts.length)(ht:Tl (Zvf F S sk)):Ret 8 713 [.f F.m,.f S.m,.f (nat sk)] (.l (Zdb (Zvf F S sk))) [none,none,none]:=.of ZVg _ rfl λN E K hK=>by
 have ok1:=okF.rounds 24
 have ok2:=okS.rounds 24
 have hj:=λr hr h=>(ok2.jmp r hr h).1
 have two:∀{T:Cd},(∀r∈T.rows,r.op.isJ=true->r.a=nat r.t)->T.rows.length<=100/\T.catches.length<=100/\T.starts.length<=100->sk<=T.starts.length->Ret 3 684 [.f (Cd.rounds 24 F).m,.f T.m,.f (nat sk)] ((jn (bdy (Cd.rounds 24 F)) T sk).o true) [none,none,none]:=λh1 h2 h5=>Zex ok1.pln ok1.l100.1 ok1.l100.2.1 ok1.l100.2.2 h1 h2.1 h2.2.1 h2.2.2 h5
 unfold Zvf at ht hK
 refine(Zpr okF).h ?_
 conv=>whnf
 refine(Zpr okS).h ?_
 rcases hsk with rfl|⟨rfl,hs1⟩
 .conv=>whnf
  refine(two hj ok2.l100 (Nat.zero_le _)).h (N:=N+4) ?_
  exact(Xd ht).h (N:=N+6) hK
 .conv=>whnf
  refine CompP.fm (Cd.rounds 24 F).rows Rw.m (λr=>if Xn r.a then some r.m else none) rfl (λr hr R hR=>?_) ?_
  .conv=>whnf
   refine Za (ZGa (ok1.pln r hr).1) ?_
   cases h:Xn r.a <;> (rw[h]at hR;exact hR)
  rw[Zcq]
  generalize (Cd.rounds 24 F).rows.filter (λr=>Xn r.a)=q at ht hK⊢
  cases q with
  |nil=>
   refine(Zbq (c:=zed) (own:=true)).h (N:=N+5) ?_
   conv=>whnf
   refine(two (T:=zed) fmN ⟨Nat.zero_le _,Nat.zero_le _,show 1<=100 by decide⟩ (show 1<=1 by decide)).h (N:=N+4) ?_
   exact(Xd ht).h (N:=N+6) hK
  |cons r l=>
   conv=>whnf
   refine(two hj ok2.l100 (by rw[hss,hs1];exact Nat.le_refl 1)).h (N:=N+4) ?_
   exact(Xd ht).h (N:=N+6) hK
end
theorem ZUp:∃bn s xp k kp rp rp2 hp pos b x,TT.fn 720=some (Zy (tD 89) [.frz] [])/\Zju (tD 89)=[.Try [.Return (some x) rp] [.ExceptHandler (some (.Name bn xp)) none [.Return (some (.Constant (.str s) k kp)) rp2] hp] [] [] pos]/\(Jg (tD 89)).names.lookup bn=some .globalImplicit/\TT.glob bn=some (.con (.ref b))/\TT.exc b=true/\(Zmm (tD 89)++[]).Nodup/\(Zmm (tD 89)).length=1/\
  eC 40 (Jg (tD 89)).names (Zmm (tD 89)++[]) x=.fn 421 (cl [v 0])/\s="":=⟨_,_,_,_,_,_,_,_,_,_,_,rfl,rfl,rfl,rfl,rfl,by decide+kernel,rfl,by with_unfolding_all rfl,rfl⟩
theorem Zgy{c:Cd}{h:Nat->Nat}{v:OV}(hc:Hc c h)(h1:Low c h->v=.f (.str (Str.ofString "")))(h2:¬Low c h->v=.f (.lst (dl c.rows.length c.live h))):Ret 7 720 [.f c.m] v [none]:=⟨λ{N E K} hK=>by
 obtain⟨bn,s,xp,k,kp,rp,rp2,hp,pos,b,x,e0,e1,e2,e3,e4,e5,e6,e7,rfl⟩:=ZUp
 refine ZMi (E':=Low c h) (m:=40) (outs:=[none]) e0 e1 e5 e6.symm (λj o z=>?_) e2 e3 e4 ?_ λl=>h1 l▸hK
 .match j,z with
  |0,z=>cases z
 show(mg (N+6) (eC 40 (Jg (tD 89)).names (Zmm (tD 89)++[]) x)).e _ _ _
 rw[e7]
 exact ZCy hc (λnl=>Ziq (h2 nl▸hK)) id⟩
section
variable{c F S J:Cd}{m0:Nat}{h:Nat->Nat}
noncomputable def ZOw(m:Nat):List Rw:=[⟨.pop,.none,.none,9⟩,⟨.setg,.str (Str.ofString "$x"),.none,9⟩,⟨.jumpunless,nat (m+1),.none,9⟩,⟨.leave,.none,.none,9⟩,⟨.swap,.none,.none,9⟩,⟨.append,.none,.none,9⟩]
noncomputable def Zzq(F S:Cd)(m:Nat)(r:Rw):Cd:=⟨F.rows.take m++[r]++S.rows.map (·.mv (m+1)),F.catches++S.catches.map (·.mv (m+1)),F.starts++S.starts.map (·+(m+1))⟩
noncomputable def Js(J S:Cd)(m:Nat):Cd:=⟨J.rows,J.catches,S.starts.map (·+m)⟩
noncomputable def dlv(v:MV):Prop:=v=.none\/∃n:Nat,v=nat n
theorem ZHs{n:Nat}{f:Nat->Bool}{h:Nat->Nat}:∀v∈dl n f h,dlv v:=λv hv=>by
 obtain⟨i,_,rfl⟩:=List.mem_map.mp hv
 cases f i
 .exact .inl rfl
 .exact .inr ⟨_,rfl⟩
theorem Zyb{l:List MV}(h:∀v∈l,dlv v):Py Zr (.lst l):=Py.lst (n:=7) (List.map_id l▸Pys.all (f:=id) λv hv=>by
 rcases h v hv with e|⟨n,e⟩
 .exact e▸ZDa
 .exact e▸ZHm)
theorem ZGj{l:List MV}{j:Nat}(hj:j<=l.length):cut none (some (j:Int)) l=l.take j:=by
 show(l.take (if 0<=(j:Int)then min (j:Int).toNat l.length else((j:Int)+l.length).toNat)).drop 0=_
 rw[List.drop_zero,if_pos (Int.natCast_nonneg j),Int.toNat_natCast,Nat.min_eq_left hj]
structure ZTd(F S J:Cd)(m:Nat)(L1:List MV):Prop where
 fl:F.rows.length=m+1
 l1:L1.length<=100/\∀v∈L1,dlv v
 hc:∃h,Hc (Js J S m) h/\¬Low (Js J S m) h/\dl J.rows.length (Js J S m).live h=List.replicate m .none++L1
 dd:(Js J S m).undead=S.undead
 tl:Tl S.undead
noncomputable abbrev ZGf:Pass:=("dead rows",476,Cd.undead)
theorem ZCz{L0 L1:List MV}(okF:Ok F)(okS:Ok S)(ha:ZTd F S J m0 L1):Ret 9 730 [.f F.m,.f S.m,.f J.m,.f (.lst [.lst L0,.lst L1])] (.f (.bool true)) [none,none,none,none]:=.of ZVe _ rfl λN E K hK=>by
 obtain⟨h,hc,hlow,hdl⟩:=ha.hc
 have hm0:m0<=60:=Nat.le_of_succ_le (Nat.le_trans (Nat.le_of_eq ha.fl.symm) okF.len)
 conv=>whnf
 rw[show(((F.rows.map Rw.m).length:Int) - 1)=(m0:Int)by rw[List.length_map,ha.fl];exact Int.add_sub_cancel (m0:Int) 1]
 refine CompP.mp S.starts nat (λs=>nat (s+m0)) rfl (λa ha R hR=>hR) ?_
 rw[show S.starts.map (λs=>nat (s+m0))=(S.starts.map (·+m0)).map nat from mm]
 conv=>whnf
 refine(Zbq (c:=Js J S m0) (own:=false)).h (N:=N+6) ?_
 conv=>whnf
 refine(Zgy (v:=.f (.lst (dl (Js J S m0).rows.length (Js J S m0).live h))) hc (λe=>absurd e hlow) λ_=>rfl).h (N:=N+1) ?_
 rw[show dl (Js J S m0).rows.length (Js J S m0).live h=List.replicate m0 .none++L1 from hdl]
 conv=>whnf
 refine Za (Zwl m0 rfl (Nat.le_trans hm0 (by decide))) ?_
 conv=>whnf
 refine Za (Zap (by rw[List.length_replicate];exact Nat.le_trans (Nat.add_le_add hm0 ha.l1.1) (by decide))) ?_
 conv=>whnf
 have hpy:Py Zr (.lst (List.replicate m0 MV.none++L1)):=Zyb λv hv=>(List.mem_append.mp hv).elim (λz=>.inl (List.eq_of_mem_replicate z)) (ha.l1.2 v)
 refine Za (Zcc hpy rfl) ?_
 conv=>whnf
 have dp:=Qt (x:=ZGf) rfl hc.ok
 rw[show ZGf.2.2 (Js J S m0)=S.undead from ha.dd]at dp
 refine dp.h (N:=N+2) ?_
 conv=>whnf
 refine(Xd ha.tl).h (N:=N+7) ?_
 conv=>whnf
 refine(Qt (x:=ZGf) rfl okS).h (N:=N+2) ?_
 conv=>whnf
 refine(Xd (c:=S.undead) ha.tl).h (N:=N+7) ?_
 refine Za (Zjq (Um (n:=5) ha.tl) rfl) hK
end
section
variable{c F S J:Cd}{M N m0:Nat}{b:Bool}{y:Bx}{E:Prop}{K:OV->List (Option OV)->Prop}
structure ZTb(F S:Cd)(m:Nat)(led:Bool)(L0 L1:List MV):Prop where
 fl:F.rows.length=m+1
 l0:m<=L0.length/\L0.length<=100/\∀v∈L0,dlv v
 l1:L1.length<=100/\∀v∈L1,dlv v
 hc:∀r∈ZOw m,∃h,Hc (Zzq F S m r) h/\(led=true->Low (Zzq F S m r) h)/\(led=false->¬Low (Zzq F S m r) h/\dl (Zzq F S m r).rows.length (Zzq F S m r).live h=L0.take m++[.none]++L1)
noncomputable def rfM(r:Rw):MV:=.tup [r.op.m,r.a]
theorem ZJp:∀r∈ZOw m0,r.b=.none/\r.line=9:=fm ⟨rfl,rfl⟩ (fm ⟨rfl,rfl⟩ (fm ⟨rfl,rfl⟩ (fm ⟨rfl,rfl⟩ (fm ⟨rfl,rfl⟩ (fm ⟨rfl,rfl⟩ fmN)))))
theorem Zpu{led:Bool}{L0 L1:List MV}(hy:y.ok M b)(hM:M<=900)(okF:Ok F)(okS:Ok S)(hr:ZTb F S m0 led L0 L1)(H:∀z,Bx.ok z (M+1) b->K (.f (.bool true)) [some z.o,none,none,none,none]):CallP (N+9) E 725 [y.o,.f F.m,.f S.m,.f (.lst [.lst L0,.lst L1]),.f (.bool led)] K:=.of ZVf _ rfl (by
 have hm0:m0<=60:=Nat.le_of_succ_le (Nat.le_trans (Nat.le_of_eq hr.fl.symm) okF.len)
 have hj:=λr hr h=>(okS.jmp r hr h).1
 have ad:∀{α β:Type} {f:α->MV} {g:β->MV} {x:List α} {y:List β},x.length<=100->y.length<=100->(x.map f).length+(y.map g).length<=Zb:=λ{α β f g x y} h k=>by
  rw[List.length_map,List.length_map]
  exact Nat.le_trans (Nat.add_le_add h k) (by decide)
 have htk:(F.rows.take m0).length<=60:=Nat.le_trans (List.length_take_le _ _) hm0
 conv=>whnf
 rw[show(((F.rows.map Rw.m).length:Int) - 1)=(m0:Int)by rw[List.length_map,hr.fl];exact Int.add_sub_cancel (m0:Int) 1]
 refine Jz (l:=(ZOw m0).map rfM) hy (Nat.le_trans hM (by decide)) (Nat.succ_pos 5) (Nat.le_of_ble_eq_true rfl) λd z hd hz=>?_
 obtain⟨r,hr1,rfl⟩:=List.mem_map.mp hd
 obtain⟨h,hc,hl1,hl2⟩:=hr.hc r hr1
 obtain⟨rb,rl⟩:=ZJp r hr1
 obtain⟨o,a,b',i⟩:=r
 obtain rfl:b'=.none:=rb
 obtain rfl:i=9:=rl
 generalize hR:(⟨o,a,.none,9⟩:Rw)=r at*
 have H:=H z hz
 conv=>whnf
 refine(Zpx (S:=S) (d:=m0+1) hj (Nat.le_trans okS.cln (by decide))).h (N:=N+6) ?_
 conv=>whnf
 refine CompP.mp S.starts nat (λs=>nat (s+(m0+1))) rfl (λa ha R hR=>hR) ?_
 rw[show S.starts.map (λs=>nat (s+(m0+1)))=(S.starts.map (·+(m0+1))).map nat from mm]
 refine Za (Zap (ad okF.l100.2.2 (by rw[List.length_map];exact okS.l100.2.2))) ?_
 rw[<- List.map_append]
 conv=>whnf
 rw[ZGj (by rw[List.length_map,hr.fl];exact Nat.le_succ m0),<- List.map_take]
 subst hR
 refine(Qw (o:=o)).h (N:=N+7) ?_
 have l1:(F.rows.take m0).length+1<=100:=Nat.le_trans (Nat.succ_le_succ htk) (by decide)
 refine Za (Zap (y:=[Rw.m ⟨o,a,.none,9⟩]) (by rw[List.length_map];exact Nat.le_trans l1 (by decide))) ?_
 rw[Yv]
 refine Za (Zap (ad (by rw[List.length_append];exact l1) (by rw[List.length_map];exact okS.l100.1))) ?_
 rw[<- List.map_append]
 conv=>whnf
 refine Za (Zap (ad okF.l100.2.1 (by rw[List.length_map];exact okS.l100.2.1))) ?_
 rw[<- List.map_append]
 refine(Zbq (c:=Zzq F S m0 ⟨o,a,.none,9⟩) (own:=true)).h (N:=N+6) ?_
 generalize Zzq F S m0 ⟨o,a,.none,9⟩=R at hc hl1 hl2
 conv=>whnf
 cases led
 .obtain⟨q1,q2⟩:=hl2 rfl
  refine(Zgy (v:=.f (.lst (dl R.rows.length R.live h))) hc (λe=>absurd e q1) λ_=>rfl).h (N:=N+1) ?_
  rw[q2]
  conv=>whnf
  rw[ZGj hr.l0.1]
  have l2:(L0.take m0).length<=60:=Nat.le_trans (List.length_take_le _ _) hm0
  refine Za (Zap (Nat.le_trans (Nat.succ_le_succ l2) (by decide))) ?_
  conv=>whnf
  refine Za (Zap (by rw[List.length_append];exact Nat.le_trans (Nat.add_le_add (Nat.succ_le_succ l2) hr.l1.1) (by decide))) ?_
  have hpy:Py Zr (.lst (L0.take m0++[MV.none]++L1)):=Zyb λv hv=>(List.mem_append.mp hv).elim (λz=>(List.mem_append.mp z).elim (λz=>hr.l0.2.2 v (List.mem_of_mem_take z)) λz=>.inl (List.mem_singleton.mp z)) (hr.l1.2 v)
  exact Za (Zjq hpy rfl) H
 .refine(Zgy (v:=.f (.str (Str.ofString ""))) hc (λ_=>rfl) λe=>absurd (hl1 rfl) e).h (N:=N+1) ?_
  exact Za (Ys "" "") H)
end
section
variable{N:Nat}{E:Prop}{z:Bx}{F S:Cd}{A L:List Ld}
structure Zkc(c:Cd)(L:List Ld):Prop where
 hc:Hc c (hgt L)
 low:¬Low c (hgt L)
 len:c.rows.length=L.length
noncomputable def Yw(c:Cd)(L:List Ld):List MV:=dl c.rows.length c.live (hgt L)
structure Scn(F S:Cd)(A L:List Ld):Prop where
 f:FirstD A
 s:SecondD L
 sf:SceneD (A++[Yd]) A.length 11 F
 ss:SceneD L L.length 31 S
noncomputable def ZHv(F S:Cd)(A:List Ld)(sk:Nat):Prop:=sk=0\/(sk=1/\F.live A.length=true/\S.starts.length=1)
noncomputable def Zmi(A L:List Ld):Prop:=(∃d,L[0]?=some d/\(d.op=.text\/d.op=.undef\/d.op=.fail))\/∀d∈A,d.op.isJ=false
structure Zof(F S:Cd)(A L:List Ld)(sk:Nat):Prop where
 ok:Ok (jn (bdy F) S sk)
 tf:Tl F
 ts:Tl S
 tj:Tl (jn (bdy F) S sk)
 hj:∃h,Hc (jn (bdy F) S sk) h/\¬Low (jn (bdy F) S sk) h/\dl (jn (bdy F) S sk).rows.length (jn (bdy F) S sk).live h=(Yw F (A++[Yd])).take A.length++Yw S L
 pass:∀x∈Xm,x.2.2 (jn (bdy F) S sk)=Zmf x F S sk/\Tl (Zmf x F S sk)/\(x.2.2 S).starts.length=S.starts.length
 thl:F.rows.length - 1<=(bdy F.threaded).rows.length
 tidy:Zmi A L->Cd.rounds 24 (jn (bdy F) S sk)=Zvf F S sk/\Tl (Zvf F S sk)
 tsl:(Cd.rounds 24 S).starts.length=S.starts.length
 ref:ZTb F S A.length (F.live A.length) (Yw F (A++[Yd])) (Yw S L)
 alo:ZTd F S (jn (bdy F) S sk) A.length (Yw S L)
theorem Zln{l:List MV}{x:MV}:getItem (.f (.lst (l++[x]))) (.int (-1))=some x:=by
 show(if 0<=(-1:Int)then _ else if 0<=(-1:Int)+(l++[x]).length then some ((-1:Int)+(l++[x]).length).toNat else none:Option Nat).bind ((l++[x])[·]?)=_
 have e:(-1:Int)+(l++[x]).length=(l.length:Nat):=by rw[List.length_append];exact(Int.add_comm _ _).trans (Int.add_sub_cancel (l.length:Int) 1)
 rw[if_neg (by decide),e,if_pos (Int.natCast_nonneg _)]
 exact List.getElem?_concat_length
theorem Zrr{l:List MV}{x:MV}:getItem (.l (l++[x])) (.int (-1))=some x:=Zln
noncomputable def ZPa(x:Cd×List Ld):MV:=.lst (Yw x.1 x.2)
theorem ZFe(h:FirstD A):hs 0 (A++[Yd])=hs 0 A++[0]:=by
 rw[Zsd,h.2.2.2];rfl
theorem ZRd{c:Cd}(hl:c.rows.length=L.length){ms:List Nat}(hms:∀q,q∈ms↔Reach c q):(List.range L.length).map (λi=>if ms.contains i then nat (hgt L i)else MV.none)=Yw c L:=by
 unfold Yw dl
 rw[hl]
 refine List.map_congr_left λi _=>?_
 rw[show ms.contains i=c.live i by rw[Bool.eq_iff_iff,Yn,<- hms];exact List.contains_iff_mem]
noncomputable abbrev ZHp(is:List Int)(z:Bx)(lo:List MV)(F S:Cd)(A L:List Ld):Sg:=[some (.f (.lst (is.map .int))),some z.o,some (.l lo),some (.f (.lst ((A++[Yd]).map Ld.m))),some (.f (.lst ((hs 0 (A++[Yd])).map nat))),some (.f F.m),some (.f (.lst (L.map Ld.m))),some (.f (.lst ((hs 0 L).map nat))),some (.f S.m),none,none,none,none,none,none,none,none,none,none,none,none]
noncomputable def ZNd(x:Cd×List Ld):MV:=.tup [x.1.m,.lst ((hs 0 x.2).map nat)]
theorem Zwq{is:List Int}{l:List (Cd×List Ld)}{Q:Fl->Sg->Prop}(hl:l.length<=10)(h:∀x∈l,Zkc x.1 x.2)(hQ:Q .next (ZHp is z (l.map ZPa) F S A L)):
  ForP (Zfy (.t [9,10])) ((mg (N+12) (cl [.as (.tn 11) (.fn 694 (cl [v 9])),.ex (.app (.v 2) (.comp (.ife (.cmp (v 3) (.cp .In (.v 1))) (.sub (.v 0) (v 3)) (.k .none)) (.n 3) (.itc "range" (cl [.lenP (.v 10)])) .nil [10,11] 2)),.ifs (.cmp (.fn 720 (cl [v 9])) (.c1 .NotEq (.sub (.v 2) (.neg (ki 1))))) (cl [.ret (.k (.bool false))]) .nil])).s E) (l.map ZNd) (ZHp is z [] F S A L) Q:=by
 refine ForP.st l ZNd (λk=>ZHp is z ((l.take k).map ZPa) F S A L) rfl (λk hk R Q hQ=>?_) (by rw[List.take_length];exact hQ)
 have hx:=h _ (List.getElem_mem hk)
 have hlk:=Zve (f:=ZPa) hk (Nat.le_trans hl (by decide))
 rw[ZHp,<- Zkj hk]at hQ
 generalize (l.take k).map ZPa=lo at hlk hQ⊢
 generalize l[k]=x at hx hQ
 obtain⟨c,L'⟩:=x
 obtain⟨hc,hlow,hlen⟩:=hx
 conv=>whnf
 refine ZJs (N:=N+11) hc.ok λms hms=>?_
 conv=>whnf
 refine Za (by rw[List.length_map,Uc];exact Jc (Nat.le_trans (Nat.le_of_eq hlen.symm) (Nat.le_of_lt hc.ok.lt))) ?_
 refine CompP.mp (List.range L'.length) nat (λi=>if ms.contains i then nat (hgt L' i)else MV.none) rfl (λi hi R hR=>?_) ?_
 .conv=>whnf
  refine Za ZLy (Zq (λe=>?_) λe=>?_) <;> rw[e]at hR
  .conv=>whnf
   exact Za (ZPc (List.mem_range.mp hi)) hR
  .exact hR
 .rw[ZRd hlen hms]
  refine Zv (decide_eq_true hlk) ?_
  conv=>whnf
  refine(Zgy (v:=.f (.lst (Yw c L'))) hc (λe=>absurd e hlow) λ_=>rfl).h (N:=N+5) ?_
  conv=>whnf
  refine Za Zrr ?_
  exact Za (Zcc (Zyb ZHs) rfl) hQ
end
section
variable{N:Nat}{E:Prop}{K:OV->List (Option OV)->Prop}
theorem ZRf{A:List Ld}:((((A++[Yd]).map Ld.m).length:Int) - 1)=(A.length:Int):=by
 rw[List.length_map,List.length_append]
 exact Int.add_sub_cancel (A.length:Int) 1
theorem ZRl{is:List Int}(hE:∀F S A L,Scn F S A L->Zkc F (A++[Yd])/\Zkc S L)
  (hR:∀F S A L z b,Scn F S A L->Bx.ok z 200 b->(mg (N+12) (tl (tl (tl (tl (tl (tl ZGx))))))).s E (ZHp is z [.lst (Yw F (A++[Yd])),.lst (Yw S L)] F S A L) (Zgd [TP2.f] K)):CallP (N+13) E 735 [.f (.lst (is.map .int))] K:=.of ZVd _ rfl (by
 conv=>whnf
 refine ZQe (N:=N+11) λz b hz=>?_
 conv=>whnf
 refine ZCw (N:=N+4) hz (by decide) λA z hA hz=>?_
 rw[<- ZFe hA]
 have hl7:=hA.lay.len
 have hln:(A++[Yd]).length=A.length+1:=List.length_append
 conv=>whnf
 rw[ZRf]
 refine Zpt (N:=N+7) (L:=A++[Yd]) (many:=A.length) (line:=11) hA.lay hz (by decide) (List.length_pos_iff.mpr hA.2.1) (hln▸Nat.le_succ _) λF z hF hz=>?_
 conv=>whnf
 refine Zvx (N:=N+4) hz (by decide) λL z hL hz=>?_
 have hL0:=hL.lay.pos
 conv=>whnf
 rw[show MV.int (L.map Ld.m).length=nat L.length by rw[List.length_map];rfl]
 refine Zpt (N:=N+7) (L:=L) (many:=L.length) (line:=31) hL.lay hz (by decide) hL0 (Nat.le_refl _) λS z hS hz=>?_
 have hsc:Scn F S A L:=⟨hA,hL,hF,hS⟩
 obtain⟨e1,e2⟩:=hE _ _ _ _ hsc
 conv=>whnf
 exact Zwq (l:=[(F,A++[Yd]),(S,L)]) (Nat.le_of_ble_eq_true rfl) (fm e1 (fm e2 fmN)) (hR F S A L z b hsc (hz.mono (by decide))))
end
section
variable{b:Bool}{N M:Nat}{E:Prop}{K:OV->List (Option OV)->Prop}{F S:Cd}{A L:List Ld}{sk:Nat}{z:Bx}{is:List Int}
theorem ZSq(o:Op):["text","undef","fail"].contains o.n=[Op.text,.undef,.fail].contains o:=Zjv o [.text,.undef,.fail]
noncomputable abbrev ZHo(is:List Int)(z:Bx)(lo:OV)(F S:Cd)(A L:List Ld)(sk:Nat)(r:Sg):Sg:=some (.f (.lst (is.map .int)))::some z.o::some lo::some (.f (.lst ((A++[Yd]).map Ld.m)))::some (.f (.lst ((hs 0 (A++[Yd])).map nat)))::some (.f F.m)::some (.f (.lst (L.map Ld.m)))::some (.f (.lst ((hs 0 L).map nat)))::some (.f S.m)::none::none::none::some (.f (nat A.length))::some (.f (.bool (F.live A.length)))::some (.f (nat sk))::some (.f (jn (bdy F) S sk).m)::some (.l [.lst (Zdb F),.lst (Zdb S),.lst (Zdb (jn (bdy F) S sk))])::r
theorem ZEo{o17 o18 o19 o20:Option OV}(okF:Ok F)(okS:Ok S)(hf:Zof F S A L sk)(hz:z.ok M b)(hM:M<=800)(H:K (.f (.bool true)) [none]):(mg (N+12) (tl (tl (tl (tl (tl (tl (tl (tl (tl (tl (tl (tl (tl (tl (tl (tl ZGx))))))))))))))))).s E (ZHo is z (.l [.lst (Yw F (A++[Yd])),.lst (Yw S L)]) F S A L sk [o17,o18,o19,o20]) (Zgd [TP2.f] K):=by
 have hpy:Py Zr (.lst [.lst (Zdb F),.lst (Zdb S),.lst (Zdb (jn (bdy F) S sk))]):=Py.lst (n:=7) (.cons (Um (n:=4) hf.tf) (.cons (Um (n:=4) hf.ts) (.cons (Um (n:=4) hf.tj) .nil)))
 conv=>whnf
 refine Zpu (N:=N+3) hz (Nat.le_trans hM (by decide)) okF okS hf.ref λz hz=>?_
 conv=>whnf
 refine(ZCz (L0:=Yw F (A++[Yd])) okF okS hf.alo).h (N:=N+3) ?_
 conv=>whnf
 refine(Xd hf.tf).h (N:=N+11) ?_
 conv=>whnf
 refine(Xd hf.ts).h (N:=N+11) ?_
 conv=>whnf
 refine(Xd hf.tj).h (N:=N+11) ?_
 exact Za (Zjq hpy rfl) H
theorem ZRi{o17 o18 o19 o20:Option OV}(hs:Scn F S A L)(okF:Ok F)(okS:Ok S)(hsk:sk=0\/(sk=1/\S.starts.length=1))(hf:Zof F S A L sk)(hz:z.ok M b)(hM:M<=800)(H:K (.f (.bool true)) [none]):(mg (N+12) (tl (tl (tl (tl (tl (tl (tl (tl (tl (tl (tl (tl (tl (tl ZGx))))))))))))))).s E (ZHo is z (.l [.lst (Yw F (A++[Yd])),.lst (Yw S L)]) F S A L sk [o17,o18,o19,o20]) (Zgd [TP2.f] K):=by
 have hL0:=hs.s.lay.pos
 have fin:∀clr:Bool,(clr=true->Zmi A L)->(mg (N+12) (tl (tl (tl (tl (tl (tl (tl (tl (tl (tl (tl (tl (tl (tl (tl ZGx)))))))))))))))).s E (ZHo is z (.l [.lst (Yw F (A++[Yd])),.lst (Yw S L)]) F S A L sk [o17,o18,o19,some (.f (.bool clr))]) (Zgd [TP2.f] K):=by
  intro clr hclr
  obtain⟨g,s,k,bb⟩:=z
  cases bb
  .cases clr
   .exact ZEo okF okS hf hz hM H
   .obtain⟨t1,t2⟩:=hf.tidy (hclr rfl)
    conv=>whnf
    refine(Zpr hf.ok).h (N:=N+5) ?_
    rw[t1]
    conv=>whnf
    refine(Xd t2).h (N:=N+11) ?_
    conv=>whnf
    refine(Zvw okF okS hsk hf.tsl t2).h (N:=N+4) ?_
    refine Za (Zcc (Um (n:=5) t2) rfl) ?_
    exact ZEo (N:=N) (E:=E) (K:=K) (is:=is) (z:=⟨g,s,k,false⟩) (A:=A) (L:=L) (F:=F) (S:=S) (sk:=sk) (o17:=o17) (o18:=o18) (o19:=o19) (o20:=some (.f (.bool true))) okF okS hf hz hM H
  .exact ZEo okF okS hf hz hM H
 conv=>whnf
 refine Za (Znl (x:=L[0].m) (by rw[List.getElem?_map,List.getElem?_eq_getElem hL0];rfl)) ?_
 conv=>whnf
 refine Za (Zcm L[0].op.n ["text","undef","fail"]) ?_
 rw[ZSq]
 cases hb:[Op.text,.undef,.fail].contains L[0].op
 .conv=>whnf
  refine CompP.fm (A++[Yd]) Ld.m (λd=>if d.op.isJ then some d.m else none) rfl (λd _ R hR=>?_) ?_
  .conv=>whnf
   refine Za (ZKk d.op) (Za (ZKl d.op) ?_)
   cases h:d.op.isJ <;> (rw[h]at hR;exact hR)
  rw[Zcq]
  exact fin _ λe=>.inr λd hd=>by
   have e:(((A++[Yd]).filter λd=>d.op.isJ).map Ld.m).isEmpty=true:=e
   rw[List.isEmpty_iff,List.map_eq_nil_iff,List.filter_eq_nil_iff]at e
   exact Bool.eq_false_iff.mpr (e d (List.mem_append_left _ hd))
 .refine fin true λ_=>.inl ⟨L[0],List.getElem?_eq_getElem hL0,?_⟩
  have:=List.contains_iff_mem.mp hb
  exact(List.mem_cons.mp this).imp id λh=>(List.mem_cons.mp h).imp id List.mem_singleton.mp
end
section
variable{b:Bool}{N M:Nat}{E:Prop}{K:OV->List (Option OV)->Prop}{F S:Cd}{A L:List Ld}{sk:Nat}{z:Bx}{is:List Int}
noncomputable def N8:List Pass:=[("pushes",483,Cd.pushes),("copies",490,Cd.copies),("known branches",504,Cd.known),("threaded",464,Cd.threaded),("turned branches",511,Cd.turned),("short jumps",518,Cd.short),("dead rows",476,Cd.undead),("swaps",525,Cd.swaps)]
theorem ZOn:∀x∈N8,x∈Xm:=
 have t:∀{n:Nat} {x:Pass},Xm[n]?=some x->x∈Xm:=λh=>List.mem_of_getElem? h
 fm (t (n:=5) rfl) (fm (t (n:=6) rfl) (fm (t (n:=1) rfl) (fm (t (n:=0) rfl) (fm (t (n:=2) rfl) (fm (t (n:=3) rfl) (fm (t (n:=4) rfl) (fm (t (n:=7) rfl) fmN)))))))
noncomputable def ZHj(x:Pass):MV:=.str (Str.ofString x.1)
theorem ZGi{α:Type}{f:α->MV}{H:List α}{i j:Nat}(hj:j<=H.length)(hi:i<=j):cut (some (i:Int)) (some (j:Int)) (H.map f)=((H.take j).drop i).map f:=by
 have c:∀{k:Nat},k<=H.length->Zfw (k:Int) (H.map f).length=k:=λ{k} h=>by
  unfold Zfw
  rw[if_pos (Int.natCast_nonneg k),Int.toNat_natCast,List.length_map,Nat.min_eq_left h]
 show((H.map f).take (Zfw (j:Int) (H.map f).length)).drop (Zfw (i:Int) (H.map f).length)=_
 rw[c hj,c (Nat.le_trans hi hj),<- List.map_take,<- List.map_drop]
theorem ZRj(hsc:Scn F S A L)(okF:Ok F)(okS:Ok S)(hsk:sk=0\/(sk=1/\S.starts.length=1))(hf:Zof F S A L sk)(hz:z.ok M b)(hM:M<=700)(H:K (.f (.bool true)) [none]):(mg (N+12) (tl (tl (tl (tl (tl (tl (tl (tl ZGx))))))))).s E [some (.f (.lst (is.map .int))),some z.o,some (.l [.lst (Yw F (A++[Yd])),.lst (Yw S L)]),some (.f (.lst ((A++[Yd]).map Ld.m))),some (.f (.lst ((hs 0 (A++[Yd])).map nat))),some (.f F.m),some (.f (.lst (L.map Ld.m))),some (.f (.lst ((hs 0 L).map nat))),some (.f S.m),none,none,none,some (.f (nat A.length)),some (.f (.bool (F.live A.length))),some (.f (nat sk)),none,none,none,none,none,none] (Zgd [TP2.f] K):=by
 have hsk':sk<=S.starts.length:=by
  rcases hsk with rfl|⟨rfl,h⟩
  .exact Nat.zero_le _
  .exact Nat.le_of_eq h.symm
 obtain⟨h,hc,hlow,hdl⟩:=hf.hj
 have hlF:(Yw F (A++[Yd])).length=A.length+1:=by unfold Yw;rw[Ug,hf.ref.fl]
 have hA:A.length+1<=60:=hf.ref.fl▸okF.len
 have hlS:(Yw S L).length<=60:=by unfold Yw;rw[Ug];exact okS.len
 conv=>whnf
 refine(Zex (F:=F) (S:=S) (sk:=sk) okF.pln okF.l100.1 okF.l100.2.1 okF.l100.2.2 (λr hr h=>(okS.jmp r hr h).1) okS.l100.1 okS.l100.2.1 okS.l100.2.2 hsk').h (N:=N+9) ?_
 conv=>whnf
 refine(Xd hf.tf).h (N:=N+11) ?_
 conv=>whnf
 refine(Xd hf.ts).h (N:=N+11) ?_
 conv=>whnf
 refine(Xd hf.tj).h (N:=N+11) ?_
 conv=>whnf
 refine(Zgy (v:=.f (.lst (dl (jn (bdy F) S sk).rows.length (jn (bdy F) S sk).live h))) hc (λe=>absurd e hlow) λ_=>rfl).h (N:=N+5) ?_
 rw[hdl]
 conv=>whnf
 rw[ZGj (by rw[hlF];exact Nat.le_succ _)]
 refine Za (Zap (by rw[List.length_take,hlF];exact Nat.le_trans (Nat.add_le_add (Nat.le_trans (Nat.min_le_left ..) (Nat.le_of_succ_le hA)) hlS) (by decide))) ?_
 have hpy:Py Zr (.lst ((Yw F (A++[Yd])).take A.length++Yw S L)):=Zyb λv hv=>(List.mem_append.mp hv).elim (λz=>ZHs v (List.mem_of_mem_take z)) (ZHs v)
 refine Za (Zcc hpy rfl) ?_
 conv=>whnf
 refine Jk (n:=8) hz (Nat.le_trans hM (by decide)) (by decide) (by decide) λw z hw hz=>?_
 have loop:∀k:Nat,k<=3->∀{Q:Fl->Sg->Prop},Q .next (ZHo is z (.l [.lst (Yw F (A++[Yd])),.lst (Yw S L)]) F S A L sk [some (.f (.lst (N8.map ZHj))),some (.f (nat w)),none,none])->ForP (Zfy (.n 19)) ((mg (N+12) (cl [.ifs (.cmp (.fn 689 (cl [.fn 563 (cl [v 15,.lst (cl [v 19])])])) (.c1 .NotEq (.fn 708 (cl [v 5,v 8,v 14,v 19])))) (cl [.ret (.k (.bool false))]) .nil])).s E) (cut (some (w:Int)) (some ((w+k:Nat):Int)) ((N8++N8).map ZHj)) (ZHo is z (.l [.lst (Yw F (A++[Yd])),.lst (Yw S L)]) F S A L sk [some (.f (.lst (N8.map ZHj))),some (.f (nat w)),none,none]) Q:=by
  intro k hk Q hQ
  refine ForP.st (((N8++N8).take (w+k)).drop w) ZHj (λ_=>ZHo is z (.l [.lst (Yw F (A++[Yd])),.lst (Yw S L)]) F S A L sk [some (.f (.lst (N8.map ZHj))),some (.f (nat w)),none,none]) (congrArg (·,_) (ZGi (Nat.le_trans (Nat.add_le_add (Nat.le_of_lt hw) hk) (show 8+3<=16 by decide)) (Nat.le_add_right ..))) (λj hj R Q hQ=>?_) hQ
  have hx:(((N8++N8).take (w+k)).drop w)[j]∈Xm:=(List.mem_append.mp (List.mem_of_mem_take (List.mem_of_mem_drop (List.getElem_mem hj)))).elim (ZOn _) (ZOn _)
  generalize (((N8++N8).take (w+k)).drop w)[j]=x at hx
  obtain⟨p1,p2,p3⟩:=hf.pass x hx
  have rp:=Qt (ZKi x hx).1 hf.ok
  rw[p1]at rp
  conv=>whnf
  refine rp.h (N:=N+6) ?_
  conv=>whnf
  refine(Xd p2).h (N:=N+11) ?_
  conv=>whnf
  refine(ZQd hx okF okS hsk' hf.thl p2 p3).h (N:=N+5) ?_
  exact Za (Zcc (Um (n:=5) p2) rfl) hQ
 have d:=ZRi (N:=N) (E:=E) (K:=K) (is:=is) (o17:=some (.f (.lst (N8.map ZHj)))) (o18:=some (.f (nat w))) (o19:=none) (o20:=none) hsc okF okS hsk hf hz (Nat.succ_le_succ (Nat.le_trans hM (by decide))) H
 obtain⟨g,s,k,bb⟩:=z
 cases bb
 .exact loop 3 (by decide) d
 .exact loop 1 (by decide) d
end
section
variable{b:Bool}{N M:Nat}{E:Prop}{K:OV->List (Option OV)->Prop}{F S:Cd}{A L:List Ld}{sk:Nat}{z:Bx}{is:List Int}
theorem ZXh(h:ZHv F S A sk):sk=0\/(sk=1/\S.starts.length=1):=h.imp id λh=>⟨h.1,h.2.2⟩
theorem ZRk(hsc:Scn F S A L)(okF:Ok F)(okS:Ok S)(hf:∀sk,ZHv F S A sk->Zof F S A L sk)(hz:z.ok M b)(hM:M<=600)(H:K (.f (.bool true)) [none]):(mg (N+12) (tl (tl (tl (tl (tl (tl ZGx))))))).s E (ZHp is z [.lst (Yw F (A++[Yd])),.lst (Yw S L)] F S A L) (Zgd [TP2.f] K):=by
 have hfl:=(hf 0 (.inl rfl)).ref.fl
 have hlast:(Yw F (A++[Yd]))[A.length]?=some (if F.live A.length then nat (hgt (A++[Yd]) A.length)else .none):=by
  unfold Yw
  exact Zhw (by rw[hfl];exact Nat.lt_succ_self _)
 have hl:(Yw F (A++[Yd])).length=A.length+1:=by unfold Yw;rw[Ug,hfl]
 have hg:getItem (.f (.lst (Yw F (A++[Yd])))) (.int (-1))=some (if F.live A.length then nat (hgt (A++[Yd]) A.length)else .none):=by
  rcases List.eq_nil_or_concat (Yw F (A++[Yd]))with e|⟨l,x,e⟩
  .rw[e]at hl;cases hl
  .rw[List.concat_eq_append]at e
   rw[e]at hlast hl⊢
   rw[List.length_append]at hl
   exact Zln.trans ((show some x=(l++[x])[A.length]? by rw[<- Nat.succ.inj hl,List.getElem?_concat_length]).trans hlast)
 have fin:∀(sk:Nat) (y:Bx),ZHv F S A sk->Bx.ok y (M+1) b->_:=λsk y h hy=>ZRj (N:=N) (E:=E) (K:=K) (is:=is) hsc okF okS (ZXh h) (hf sk h) hy (Nat.le_trans (Nat.succ_le_succ hM) (by decide)) H
 have f0:=fin 0 z (.inl rfl) (hz.mono (Nat.le_succ M))
 refine Za hg ?_
 cases hv:F.live A.length
 .conv=>whnf
  rw[ZRf]
  rw[hv]at f0
  exact f0
 .rw[hv]at fin f0
  conv=>whnf
  rw[ZRf]
  refine Zq (λe=>?_) λ_=>f0
  have e:S.starts.length=1:=by
   have e:PyData.eqv (.int ((S.starts.map nat).length:Int)) (.int 1)=true:=e
   unfold PyData.eqv at e
   have e:=eq_of_beq e
   rw[List.length_map]at e
   exact Int.ofNat_inj.mp e
  refine Jk (n:=2) hz (Nat.le_trans hM (by decide)) (by decide) (by decide) λd y hd hy=>?_
  rcases d with _|_|d
  .exact fin 1 y (.inr ⟨rfl,hv,e⟩) hy
  .exact fin 0 y (.inl rfl) hy
  .exact absurd hd (Nat.not_lt_of_le (Nat.le_add_left 2 d))
theorem ZEd(hE:∀F S A L,Scn F S A L->Zkc F (A++[Yd])/\Zkc S L)(hF:∀F S A L,Scn F S A L->∀sk,ZHv F S A sk->Zof F S A L sk)(is:List Int):Ret 13 735 [.f (.lst (is.map .int))] (.f (.bool true)) [none]:=⟨λ{N E K} hK=>ZRl hE λF S A L z b hs hz=>ZRk hs (hE _ _ _ _ hs).1.hc.ok (hE _ _ _ _ hs).2.hc.ok (hF _ _ _ _ hs) hz (by decide) hK⟩
end
section
variable{A L:List Ld}{c:Cd}{many n m i:Nat}{line l l':Int}{v a b:MV}{o:Op}
noncomputable def rpB(v:MV):Bool:=match reprOf v with
 |some s=>PyData.strOk s
 |none=>false
theorem ZJl(h:rpB v=true):Rp v:=by
 unfold rpB at h
 cases e:reprOf v with
 |none=>rw[e]at h;cases h
 |some s=>rw[e]at h;exact⟨s,e,h⟩
theorem ZCi:["s","t","u","E","@x","$x","C","Seam"].all (λx=>rpB (.str (Str.ofString x)))=true:=by decide+kernel
theorem ZXi{s:String}(h:s∈["s","t","u","E","@x","$x","C","Seam"]):Rp (.str (Str.ofString s)):=ZJl (List.all_eq_true.mp ZCi s h)
theorem ZOv{n:Nat}(h:n < 1000):Rp (nat n):=
 ⟨Str.ofString (toString (n:Int)),if_pos (show(n:Int).natAbs < _ from Nat.lt_trans h (by decide+kernel)),sok _⟩
theorem Zir:Rp .none:=⟨_,rfl,sok "None"⟩
theorem Zpe{s:Str}(h:sml (.str s)=true):∃x∈["s","t","u","E","@x","$x","C"],s=Str.ofString x:=
 (List.any_eq_true.mp h).imp λx h=>⟨h.1,eq_of_beq h.2⟩
theorem ZIz(h:sml v=true):Rp v:=by
 cases v with
 |none=>exact Zir
 |bool b=>
  cases b
  .exact⟨_,rfl,sok "False"⟩
  .exact⟨_,rfl,sok "True"⟩
 |int i=>exact(Bool.or_eq_true _ _▸h:(i==0)=true\/(i==5)=true).elim (λe=>eq_of_beq e▸ZOv (n:=0) (by decide)) λe=>eq_of_beq e▸ZOv (n:=5) (by decide)
 |str s=>
  obtain⟨x,h1,e⟩:=Zpe h
  rw[e]
  exact ZXi (List.mem_append_left ["Seam"] h1)
 |_=>cases h
theorem ZCg:["s","t","u","E","@x","$x","C"].all (λx=>!(Str.ofString x==Str.ofString "Seam"))=true:=by decide+kernel
theorem Zvm(h:sml v=true):Xn v=false:=by
 cases v with
 |str s=>
  obtain⟨x,h1,e⟩:=Zpe h
  rw[e]
  exact(Bool.not_eq_true' _).mp (List.all_eq_true.mp ZCg x h1)
 |_=>rfl
theorem ZRy(hj:o.isJ=false)(f:(⟨o,a,b,l⟩:Rw).frm n):(⟨o,a,b,l'⟩:Rw).frm m:=⟨f.l,f.e,λe=>absurd (hj.symm.trans e) Bool.false_ne_true,f.s⟩
structure Fm(L:List Ld):Prop where
 h:∀i (hi:i < L.length),L[i].op.isJ=false->(⟨L[i].op,L[i].a,L[i].b,0⟩:Rw).frm 0/\Jf L[i].a/\Jf L[i].b/\Rp L[i].a
theorem Ld.good.fm{d:Ld}(h:d.good)(hj:d.op.isJ=false):(⟨d.op,d.a,d.b,0⟩:Rw).frm 0/\Jf d.a/\Jf d.b/\Rp d.a:=(h.1 hj).imp id λh=>h.imp id λh=>h.imp id ZIz
theorem FirstD.at(h:FirstD A)(hi:i < (A++[Yd]).length):(i < A.length/\(A++[Yd])[i].good)\/(i=A.length/\(A++[Yd])[i]=Yd):=by
 by_cases e:i < A.length
 .rw[List.getElem_append_left e]
  exact .inl ⟨e,(h.1.idx e).1⟩
 .have q:i=A.length:=Nat.le_antisymm (Nat.le_of_lt_succ (by rw[List.length_append]at hi;exact hi)) (Nat.le_of_not_lt e)
  subst q
  exact .inr ⟨rfl,List.getElem_concat_length rfl _⟩
theorem Zvr:(⟨.fail,.str (Str.ofString "Seam"),.str (Str.ofString "t"),0⟩:Rw).frm 0:=ZRz rfl ⟨.inl ⟨rfl,_,rfl⟩,.inl ⟨rfl,_,rfl⟩,rfl⟩ (nsl rfl)
theorem FirstD.fm(h:FirstD A):Fm (A++[Yd]):=⟨λi hi hj=>by
 rcases h.at hi with⟨_,g⟩|⟨_,e⟩
 .exact g.fm hj
 .rw[e];exact⟨Zvr,sok _,sok _,ZJl (by decide+kernel)⟩⟩
theorem SecondD.good(h:SecondD L)(hi:i < L.length):L[i].good:=by
 obtain⟨A,pc,e,h1,h2,_⟩:=h
 subst e
 by_cases e:i < A.length
 .rw[List.getElem_append_left e];exact(h1.idx e).1
 .rw[List.getElem_append_right (Nat.le_of_not_lt e)];exact(h2.idx (by rw[List.length_append]at hi;exact Nat.sub_lt_left_of_lt_add (Nat.le_of_not_lt e) hi)).1
theorem SecondD.fm(h:SecondD L):Fm L:=⟨λi hi hj=>(h.good hi).fm hj⟩
theorem SceneD.at(sc:SceneD L many line c){r:Rw}(h:c.rows[i]?=some r):∃hi:i < L.length,RowD L line i L[i] r:=by
 have hi:i < L.length:=sc.len▸(List.getElem?_eq_some_iff.mp h).1
 obtain⟨q,h1,h2⟩:=sc.row i hi
 exact⟨hi,Option.some.inj (h.symm.trans h1)▸h2⟩
theorem ZLh(h:o.isJ=true):lts o=["p"]:=by cases o <;> first|rfl|cases h
theorem ZFq{r:Rw}(hj:r.op.isJ=true)(ht:r.t < n)(ha:r.a=nat r.t)(hb:r.b=.none):r.frm n:=by
 have q:ZBg (lts r.op) r.a r.b:=by
  rw[ZLh hj,ha]
  exact⟨.inr (.inl ⟨⟨rfl,rfl⟩,_,rfl,Int.natCast_nonneg _⟩),hb⟩
 exact⟨(Zmc q).1,(Zmc q).2,λ_=>⟨ha,ht⟩,λe=>absurd hj (e.elim (·▸Bool.false_ne_true) (·▸Bool.false_ne_true))⟩
theorem RowD.frm(fm:Fm L)(h7:L.length<=7){r:Rw}{hi:i < L.length}(h:RowD L line i L[i] r):r.frm L.length/\r.pl/\Rp r.a:=by
 obtain⟨h1,-,h3,h4⟩:=h
 have f:=fm.h i hi
 generalize L[i]=d at h1 h3 h4 f
 cases hj:d.op.isJ with
 |false=>
  obtain⟨e1,e2⟩:=h3 hj
  obtain⟨f1,f2,f3,f4⟩:=f hj
  obtain⟨o,a,b,l⟩:=r
  have h1:o=_:=h1
  have e1:a=_:=e1
  have e2:b=_:=e2
  subst h1 e1 e2
  exact⟨ZRy hj f1,⟨f2,f3⟩,f4⟩
 |true=>
  obtain⟨g1,g2,g3,-⟩:=h4 hj
  exact⟨ZFq (h1▸hj) g3 g2 g1,⟨g2▸trivial,g1▸trivial⟩,g2▸ZOv (Nat.lt_of_lt_of_le g3 (Nat.le_trans h7 (by decide)))⟩
structure Con(c:Cd)(h:Nat->Nat):Prop where
 row:∀i r,c.rows[i]?=some r->r.op.tk<=h i/\(r.op.isJ=true->h r.t+r.op.tk=h i+r.op.pt)/\(r.op.isEnd=false->h (i+1)+r.op.tk=h i+r.op.pt)
 cat:∀k∈c.catches,h k.target=k.depth+1/\∀i,k.first<=i->i < k.last->k.depth<=h i
 sta:∀s∈c.starts,h s=0
structure Fr(c:Cd):Prop where
 frm:∀r∈c.rows,r.frm c.rows.length
 cat:∀k∈c.catches,k.frm c.rows.length
theorem Con.hc{h:Nat->Nat}(con:Con c h)(ok:Ok c)(fr:Fr c):Hc c h/\¬Low c h:=
 ⟨⟨ok,λp hp _=>by
  have hr:=List.getElem?_eq_getElem hp
  have q:=con.row p _ hr
  have j:=ok.jmp _ (List.getElem_mem hp)
  exact⟨hr,λhj=>⟨(j hj).1,(j hj).2,λ_=>q.2.1 hj⟩,λhe=>⟨ok.nxt _ _ hr he,λ_=>q.2.2 he⟩,λk hk k1 k2=>⟨(con.cat k hk).2 p k1 k2,(con.cat k hk).1,(ok.cat k hk).2.2⟩⟩,con.sta,fr.frm,fr.cat⟩,
 λ⟨p,r,_,h1,h2⟩=>Nat.not_le_of_lt h2 (con.row p r h1).1⟩
theorem Zbi{α:Type}{l:List α}{x:α}(h:(l.take n)[i]?=some x):l[i]?=some x:=by
 rw[List.getElem?_take]at h
 exact(Option.ite_none_right_eq_some.mp h).2
theorem Zsc{x:Nat}(h:(hs 0 L)[i]?=some x):hgt L i=x:=Option.some.inj ((ZAp (Uc▸(List.getElem?_eq_some_iff.mp h).1)).symm.trans h)
theorem SceneD.stas(sc:SceneD L many line c)(h0:0 < many):∀s∈c.starts,s < many/\hgt L s=0:=λs hs=>by
 rcases sc.sta with q|⟨q,q1,q2,q3⟩
 .rw[q]at hs;rw[List.mem_singleton.mp hs];exact⟨h0,rfl⟩
 .rw[q2]at hs
  rcases List.mem_cons.mp hs with z|z
  .rw[z];exact⟨h0,rfl⟩
  .rw[List.mem_singleton.mp z];exact⟨q1,q3⟩
theorem SceneD.stl(sc:SceneD L many line c):c.starts.length<=2/\c.starts≠[]:=by rcases sc.sta with q|⟨_,_,q,_⟩ <;> rw[q] <;> exact⟨Nat.le_of_ble_eq_true rfl,List.cons_ne_nil _ _⟩
theorem SceneD.cats(sc:SceneD L many line c)(h1:many<=L.length):∀k∈c.catches,k.frm many:=λk hk=>by
 have h:=(sc.cat.2 k hk).1
 rw[List.length_take,Uc,Nat.min_eq_left h1]at h
 exact h
theorem Zgs(hL:Lay L)(fm:Fm L)(sc:SceneD L many line c)(h0:0 < many)(h1:many<=L.length):Ok c/\Fr c/\Con c (hgt L)/\∀r∈c.rows,Rp r.a:=by
 have e:=sc.len
 have h60:=Nat.le_trans (e▸hL.len:c.rows.length<=7) (by decide:7<=60)
 have row:∀r∈c.rows,r.frm c.rows.length/\r.pl/\Rp r.a:=λr hr=>(List.mem_iff_getElem?.mp hr).elim λi hi=>(sc.at hi).elim λ_ h=>e▸h.frm fm hL.len
 have cat:∀k∈c.catches,k.frm c.rows.length:=λk hk=>have g:=sc.cats h1 k hk
  ⟨g.1,g.2.1,Nat.le_trans g.2.2.1 (e▸h1),Nat.lt_of_lt_of_le g.2.2.2 (e▸h1)⟩
 have sta:=sc.stas h0
 refine⟨⟨h60,λr hr hj=>(row r hr).1.j hj,λr hr=>(row r hr).2.1,λp r hp he=>?_,λk hk=>(cat k hk).2,Nat.le_trans sc.cat.1 (by decide),λs hs=>Nat.lt_of_lt_of_le (sta s hs).1 (e▸h1),Nat.le_trans sc.stl.1 (by decide),sc.stl.2⟩,⟨λr hr=>(row r hr).1,cat⟩,⟨λi r hr=>?_,λk hk=>?_,λs hs=>(sta s hs).2⟩,λr hr=>(row r hr).2.2⟩
 .exact(sc.at hp).elim λhi hd=>e▸hL.nxt p hi (hd.1▸he)
 .obtain⟨hi,g1,-,-,g4⟩:=sc.at hr
  have t1:=(hL.row i hi).1
  rw[Zlt hi,g1]
  exact⟨t1,λhj=>(g4 hj).2.2.2,λ_=>Nat.sub_add_cancel (Nat.le_trans t1 (Nat.le_add_right _ _))⟩
 .have g:=(sc.cat.2 k hk).2
  exact⟨Zsc (Zbi g.1),λi i1 i2=>(g.2 i i1 i2).elim λx q=>Zsc (Zbi q.1)▸q.2⟩
theorem Scn.first{F S:Cd}(h:Scn F S A L):Ok F/\Fr F/\Con F (hgt (A++[Yd]))/\∀r∈F.rows,Rp r.a:=Zgs h.f.lay h.f.fm h.sf (List.length_pos_iff.mpr h.f.2.1) (List.length_append▸Nat.le_succ _)
theorem Scn.second{F S:Cd}(h:Scn F S A L):Ok S/\Fr S/\Con S (hgt L)/\∀r∈S.rows,Rp r.a:=Zgs h.s.lay h.s.fm h.ss h.s.lay.pos (Nat.le_refl _)
theorem each{F S:Cd}(h:Scn F S A L):Zkc F (A++[Yd])/\Zkc S L:=
 ⟨⟨(h.first.2.2.1.hc h.first.1 h.first.2.1).1,(h.first.2.2.1.hc h.first.1 h.first.2.1).2,h.sf.len⟩,(h.second.2.2.1.hc h.second.1 h.second.2.1).1,(h.second.2.2.1.hc h.second.1 h.second.2.1).2,h.ss.len⟩
end
section
variable{A S:Cd}{B T R:Rows}{sk m p:Nat}{mk mk':Nat->Bool}{o:Option Rw}{l:List Op}
theorem at1(h:p < B.length):at_ (B++T) p=at_ B p:=by unfold at_;rw[List.getElem?_append_left h]
theorem at2{d:Nat}:at_ (B++mvs d T) (B.length+p)=(at_ T p).map (·.mv d):=by
 unfold at_ mvs
 rw[List.getElem?_append_right (Nat.le_add_right _ _),Nat.add_sub_cancel_left,List.getElem?_map]
 cases T[p]? <;> rfl
theorem ZOu(h:p < B.length):(B++T).set p o=B.set p o++T:=List.set_append_left _ _ h
theorem st2{d:Nat}:(B++mvs d T).set (B.length+p) (o.map (·.mv d))=B++mvs d (T.set p o):=by
 rw[List.set_append_right _ _ (Nat.le_add_right _ _),Nat.add_sub_cancel_left]
 unfold mvs
 rw[List.map_set]
theorem ZTs{d:Nat}:(B++mvs d T).set (B.length+p) none=B++mvs d (T.set p none):=st2 (o:=none)
theorem Jn{d:Nat}:Yu l (o.map (·.mv d))=Yu l o:=by
 cases o with
 |none=>rfl
 |some r=>show l.contains (r.mv d).op=l.contains r.op;rw[Xa]
theorem Zif{a m j:Nat}:(a+m==m+j)=(a==j):=by rw[Nat.add_comm m j,Bool.eq_iff_iff,beq_iff_eq,beq_iff_eq];exact Nat.add_right_cancel_iff
theorem Zoh{r:Rw}{d:Nat}(h:r.op.isJ=true):(r.mv d).t=r.t+d:=by unfold Rw.mv Rw.re;rw[if_pos h];rfl
theorem ZKy{o:Op}{r:Rw}{d:Nat}{i:Int}(ho:o.isJ=true)(h:r.op.isJ=true)(ha:r.a=nat r.t):(⟨o,r.a,.none,i⟩:Rw).mv d=⟨o,(r.mv d).a,.none,i⟩:=by
 unfold Rw.mv Rw.re
 rw[if_pos h,if_pos (by exact ho)]
 unfold Rw.to
 have:(⟨o,r.a,.none,i⟩:Rw).t=r.t:=rfl
 rw[this]
theorem ZBa{o:Op}(h:Xe.contains o=true):o.isJ=true:=Zoe h
theorem Zfh{r:Rw}{d:Nat}:(r.mv d).line=r.line:=by unfold Rw.mv Rw.re;split <;> rfl
noncomputable def JA(T:Rows):Prop:=∀r,some r∈T->r.op.isJ=true->r.a=nat r.t
theorem Zih{r:Rw}(h:at_ T p=some r):some r∈T:=by
 unfold at_ at h
 cases hp:T[p]? with
 |none=>rw[hp]at h;cases h
 |some o=>
  rw[hp]at h
  rw[<- show o=some r from h]
  exact List.mem_of_getElem? hp
theorem Zaf{i:Nat}:(jn A S sk).rows[A.rows.length+i]?=(S.rows[i]?).map (·.mv A.rows.length):=by
 show(A.rows++S.rows.map _)[_]?=_
 rw[List.getElem?_append_right (Nat.le_add_right _ _),Nat.add_sub_cancel_left,List.getElem?_map]
theorem Yl{i:Nat}(h:i < A.rows.length):(jn A S sk).rows[i]?=A.rows[i]?:=List.getElem?_append_left h
theorem Zhf{r:Rw}{d:Nat}(h:r.op.isJ=false):r.mv d=r:=by unfold Rw.mv Rw.re;rw[if_neg (by rw[h];nofun)]
theorem ZBs{r:Rw}{d t:Nat}(h:r.op.isJ=true):(r.to t).mv d=(r.mv d).to (t+d):=by
 unfold Rw.mv Rw.re
 rw[if_pos h,if_pos (by exact h)];rfl
noncomputable abbrev W2:=Option (Option Rw×Option Rw)
noncomputable def ap(p:Nat)(x:W2)(R:Rows):Rows:=match x with
 |some y=>(R.set p y.1).set (p+1) y.2
 |none=>R
noncomputable def mv2(d:Nat)(y:Option Rw×Option Rw):Option Rw×Option Rw:=(y.1.map (·.mv d),y.2.map (·.mv d))
theorem ap1{x:W2}(h:p+1 < B.length):ap p x (B++T)=ap p x B++T:=by
 cases x with
 |none=>rfl
 |some y=>
  show((B++T).set p y.1).set (p+1) y.2=_
  rw[ZOu (Nat.lt_of_succ_lt h),ZOu (by rw[List.length_set];exact h)];rfl
theorem ap2{x:W2}{d:Nat}:ap (B.length+p) (x.map (mv2 d)) (B++mvs d T)=B++mvs d (ap p x T):=by
 cases x with
 |none=>rfl
 |some y=>
  show((B++mvs d T).set (B.length+p) (y.1.map _)).set (B.length+(p+1)) (y.2.map _)=_
  rw[st2,st2];rfl
theorem Zzl:R.set p (at_ R p)=R:=by
 by_cases h:p < R.length
 .rw[show at_ R p=R[p]from Option.some.inj ((ZNs h).symm.trans (List.getElem?_eq_getElem h))]
  exact List.set_getElem_self h
 .exact List.set_eq_of_length_le (Nat.le_of_not_lt h)
noncomputable def Zjp(m:Bool)(a b:Option Rw):W2:=bif Yu Zqn a&&Yu [.pop] b&&!m then some (none,none)else none
noncomputable def Zfs(m:Bool)(a b:Option Rw):W2:=bif !Yu [.swap] b||m then none else bif Yu [.swap] a then some (none,none)else bif Yu [.dup] a then some (a,none)else none
noncomputable def Znu(m:Bool)(p:Nat)(a b:Option Rw):W2:=match a,b with
 |some r,some b=>bif Xe.contains r.op&&b.op==.jump&&r.t==p+2&&!m then some (some ⟨if r.op==.jumpif then .jumpunless else .jumpif,b.a,.none,r.line⟩,none)else none
 |_,_=>none
noncomputable def fK(c:Cd)(r b:Rw):W2:=
 bif Xe.contains b.op then some (none,if Jh r.a==(b.op==.jumpif)then some ⟨.jump,b.a,.none,b.line⟩else none)
 else bif b.op==.jump then(c.rows[b.t]?).bind λq=>bif Xe.contains q.op then some (none,some (b.to (if Jh r.a==(q.op==.jumpif)then q.t else b.t+1)))else none
 else none
noncomputable def Zag(c:Cd)(m:Bool)(a b:Option Rw):W2:=match a,b with
 |some r,some b=>bif !(r.op==.push)||m then none else fK c r b
 |_,_=>none
theorem Zds:Je mk p R=ap p (Zjp (mk (p+1)) (at_ R p) (at_ R (p+1))) R:=by
 unfold Je Zjp
 cases Yu Zqn (at_ R p)&&Yu [.pop] (at_ R (p+1))&&!mk (p+1) <;> rfl
theorem Zdp:Jd mk p R=ap p (Zfs (mk (p+1)) (at_ R p) (at_ R (p+1))) R:=by
 unfold Jd Zfs
 cases !Yu [.swap] (at_ R (p+1))||mk (p+1)
 .cases Yu [.swap] (at_ R p)
  .cases Yu [.dup] (at_ R p)
   .rfl
   .exact(congrArg (List.set · (p+1) none) Zzl).symm
  .rfl
 .rfl
theorem Zbf:Xg mk p R=ap p (Znu (mk (p+1)) p (at_ R p) (at_ R (p+1))) R:=by
 unfold Xg Znu
 cases at_ R p with
 |none=>rfl
 |some r=>
  cases at_ R (p+1)with
  |none=>rfl
  |some b=>
   dsimp only
   cases Xe.contains r.op&&b.op==.jump&&r.t==p+2&&!mk (p+1) <;> rfl
theorem Ql{c:Cd}:Ya c mk p R=ap p (Zag c (mk (p+1)) (at_ R p) (at_ R (p+1))) R:=by
 unfold Ya Zag
 cases at_ R p with
 |none=>rfl
 |some r=>
  cases at_ R (p+1)with
  |none=>rfl
  |some b=>
   dsimp only
   cases !(r.op==.push)||mk (p+1)
   .show gK c p R r b=ap p (fK c r b) R
    unfold gK fK
    cases Xe.contains b.op
    .cases b.op==.jump
     .rfl
     .cases c.rows[b.t]? with
      |none=>rfl
      |some q=>dsimp only[Option.bind_some];cases Xe.contains q.op <;> rfl
    .rfl
   .rfl
section
variable{m:Bool}{a b:Option Rw}{d:Nat}
theorem ZKb:Zjp m (a.map (·.mv d)) (b.map (·.mv d))=(Zjp m a b).map (mv2 d):=by
 unfold Zjp
 rw[Jn,Jn]
 cases Yu Zqn a&&Yu [.pop] b&&!m <;> rfl
theorem ZIs:Zfs m (a.map (·.mv d)) (b.map (·.mv d))=(Zfs m a b).map (mv2 d):=by
 unfold Zfs
 rw[Jn,Jn,Jn]
 cases !Yu [.swap] b||m
 .cases Yu [.swap] a
  .cases Yu [.dup] a <;> rfl
  .rfl
 .rfl
theorem ZIg(hb:∀r,b=some r->r.op.isJ=true->r.a=nat r.t):Znu m (d+p) (a.map (·.mv d)) (b.map (·.mv d))=(Znu m p a b).map (mv2 d):=by
 cases a with
 |none=>rfl
 |some r=>
  cases b with
  |none=>rfl
  |some b=>
   show(bif Xe.contains (r.mv d).op&&(b.mv d).op==.jump&&(r.mv d).t==d+p+2&&!m then some (some (⟨if(r.mv d).op==.jumpif then .jumpunless else .jumpif,(b.mv d).a,.none,(r.mv d).line⟩:Rw),none)else none:W2)=(bif Xe.contains r.op&&b.op==.jump&&r.t==p+2&&!m then some (some _,none)else none:W2).map _
   rw[Xa,Xa,Zfh]
   cases hr:Xe.contains r.op with
   |false=>rfl
   |true=>
    rw[Zoh (Zoe hr),Nat.add_assoc,Zif]
    cases hj:b.op==.jump with
    |false=>rfl
    |true=>
     have hJ:b.op.isJ=true:=by rw[eq_of_beq hj];rfl
     rw[<- ZKy (o:=if r.op==.jumpif then .jumpunless else .jumpif) (i:=r.line) (by cases r.op==.jumpif <;> rfl) hJ (hb b rfl hJ)]
     cases true&&true&&r.t==p+2&&!m <;> rfl
theorem Zws(ht:∀r,b=some r->r.op.isJ=true->r.t<=A.rows.length)(h0:(∀r,S.rows[0]?=some r->Xe.contains r.op=false)\/∀r,b=some r->r.op.isJ=false):Zag (jn A S sk) m a b=Zag A m a b:=by
 cases a with
 |none=>rfl
 |some r=>
  cases b with
  |none=>rfl
  |some b=>
   refine congrArg (cond (!(r.op==.push)||m) none) ?_
   unfold fK
   cases hj:b.op==.jump with
   |false=>rfl
   |true=>
    have hJ:b.op.isJ=true:=by rw[eq_of_beq hj];rfl
    rcases Nat.lt_or_eq_of_le (ht b rfl hJ)with h|h
    .rw[Yl h]
    .rw[h,List.getElem?_eq_none (l:=A.rows) (Nat.le_refl _),<- Nat.add_zero A.rows.length,Zaf]
     cases hs:S.rows[0]? with
     |none=>rfl
     |some q=>
      rcases h0 with z|z
      .dsimp only[Option.map_some,Option.bind_some]
       rw[Xa,z q hs];rfl
      .rw[z b rfl]at hJ;cases hJ
theorem Zwr(hb:∀r,b=some r->r.op.isJ=true->r.a=nat r.t):Zag (jn A S sk) m (a.map (·.mv A.rows.length)) (b.map (·.mv A.rows.length))=(Zag S m a b).map (mv2 A.rows.length):=by
 cases a with
 |none=>rfl
 |some r=>
  cases b with
  |none=>rfl
  |some b=>
   show(cond (!((r.mv A.rows.length).op==.push)||m) none (fK (jn A S sk) (r.mv A.rows.length) (b.mv A.rows.length)):W2)=(cond (!(r.op==.push)||m) none (fK S r b)).map _
   rw[Xa]
   cases hr:r.op==.push with
   |false=>rfl
   |true=>
    rw[Zhf (show r.op.isJ=false by rw[eq_of_beq hr];rfl)]
    cases m with
    |true=>rfl
    |false=>
     show fK (jn A S sk) r (b.mv A.rows.length)=(fK S r b).map _
     unfold fK
     rw[Xa,Zfh]
     cases hc:Xe.contains b.op with
     |true=>
      rw[<- ZKy (o:=.jump) (i:=b.line) rfl (Zoe hc) (hb b rfl (Zoe hc))]
      cases Jh r.a==(b.op==.jumpif) <;> rfl
     |false=>
      cases hj:b.op==.jump with
      |false=>rfl
      |true=>
       have hJ:b.op.isJ=true:=by rw[eq_of_beq hj];rfl
       rw[Zoh hJ,Nat.add_comm b.t,Zaf]
       cases S.rows[b.t]? with
       |none=>rfl
       |some q=>
        dsimp only[cond_false,cond_true,Option.map_some,Option.bind_some]
        rw[Xa]
        cases hq:Xe.contains q.op with
        |false=>rfl
        |true=>
         rw[Zoh (Zoe hq),Nat.add_comm A.rows.length,Nat.add_right_comm]
         cases Jh r.a==(q.op==.jumpif)
         .exact congrArg (λx=>some (none,some x)) (ZBs (t:=b.t+1) hJ).symm
         .exact congrArg (λx=>some (none,some x)) (ZBs (t:=q.t) hJ).symm
end
theorem ZSo(h:p+2 < B.length):Yr mk p (B++T)=Yr mk p B++T:=by
 unfold Yr
 have h1:=Nat.lt_of_succ_lt h
 have h0:=Nat.lt_of_succ_lt h1
 rw[at1 h0,at1 h1,at1 h]
 split
 .rw[ZOu h0,ZOu (by rw[List.length_set];exact h)]
 .rfl
theorem ZSn{d:Nat}(hm:mk' (B.length+p+1)=mk (p+1))(hm2:mk' (B.length+p+2)=mk (p+2)):Yr mk' (B.length+p) (B++mvs d T)=B++mvs d (Yr mk p T):=by
 unfold Yr
 rw[Nat.add_assoc,Nat.add_assoc,at2,at2,at2,Jn,Jn,Jn,<- Nat.add_assoc,<- Nat.add_assoc,hm,hm2]
 split
 .rw[ZTs,Nat.add_assoc,ZTs]
 .rfl
end
section
variable{A S:Cd}{B T R:Rows}{sk m n p w:Nat}{mk mk':Nat->Bool}{o:Option Rw}{l:List Op}
noncomputable def HS(S:Cd)(sk:Nat):Prop:=sk=0\/(sk=1/\∃r,S.starts=0::r)
theorem Zbb{l:List Nat}{i:Nat}:l.contains i=l.any (·==i):=by
 rw[Bool.eq_iff_iff,List.contains_iff_mem,List.any_eq_true]
 exact⟨λh=>⟨i,h,beq_self_eq_true i⟩,λh=>h.elim λa h=>eq_of_beq h.2▸h.1⟩
theorem Zuf{α β:Type}{l1:List α}{l2:List β}{g:β->α}{p:α->Bool}(h:∀b∈l2,p (g b)=false):(l1++l2.map g).any p=l1.any p:=by
 rw[List.any_append,List.any_map,show l2.any (p ∘ g)=false from List.any_eq_false.mpr λb hb e=>absurd ((h b hb).symm.trans e) Bool.false_ne_true,Bool.or_false]
theorem ZOc{α:Type}{l:List α}{p q:α->Bool}(h:∀a∈l,p a=q a):l.any p=l.any q:=by
 induction l with
 |nil=>rfl
 |cons a l ih=>rw[List.any_cons,List.any_cons,h a List.mem_cons_self,ih λb hb=>h b (List.mem_cons_of_mem _ hb)]
theorem Zug{α β:Type}{l1:List α}{l2:List β}{g:β->α}{p:α->Bool}{q:β->Bool}(h1:∀a∈l1,p a=false)(h:∀b,p (g b)=q b):(l1++l2.map g).any p=l2.any q:=by
 rw[List.any_append,List.any_map,show l1.any p=false from List.any_eq_false.mpr λb hb e=>absurd ((h1 b hb).symm.trans e) Bool.false_ne_true,Bool.false_or]
 exact ZOc λb _=>h b
theorem Ztx{a m i:Nat}(h:i < m):(a+m==i)=false:=beq_eq_false_iff_ne.mpr λe=>Nat.not_le_of_lt h (e▸Nat.le_add_left _ _)
theorem Zty{a m j:Nat}(h:a<=m)(hj:1<=j):(a==m+j)=false:=beq_eq_false_iff_ne.mpr (Nat.ne_of_lt (Nat.lt_of_le_of_lt h (Nat.lt_add_of_pos_right hj)))
theorem ZAd{r:Rw}{d i:Nat}:((r.mv d).op.isJ&&(r.mv d).t==i)=(r.op.isJ&&r.t+d==i):=by
 rw[Xa]
 cases hj:r.op.isJ with
 |false=>rfl
 |true=>rw[Zoh hj]
theorem Uu{i:Nat}(hi:i < A.rows.length):(jn A S sk).mark i=A.mark i:=by
 unfold Cd.mark
 rw[Zbb,Zbb]
 unfold jn
 dsimp only
 rw[Zuf λr _=>by rw[ZAd,Ztx hi,Bool.and_false],Zuf (p:=λk:Ct=>k.target==i) λk _=>Ztx hi,Zuf (p:=λs=>s==i) λs _=>Ztx hi]
theorem Uv(oa:Oo A)(hs:HS S sk){j:Nat}(hj:1<=j):(jn A S sk).mark (A.rows.length+j)=S.mark j:=by
 unfold Cd.mark
 rw[Zbb,Zbb]
 unfold jn
 dsimp only
 rw[Zug (q:=λr=>r.op.isJ&&r.t==j) (λr hr=>?_) (λr=>by rw[ZAd,Zif]),Zug (q:=λk:Ct=>k.target==j) (λk hk=>Zty (oa.cat k hk).2.2 hj) (λk=>Zif),Zug (q:=λs=>s==j) (λs hs=>Zty (oa.sta s hs) hj) (λs=>Zif)]
 .rcases hs with rfl|⟨rfl,r,e⟩
  .rfl
  .rw[e,List.any_cons,List.drop_succ_cons,List.drop_zero,beq_eq_false_iff_ne.mpr (Nat.ne_of_lt hj),Bool.false_or]
 .cases e:r.op.isJ with
  |false=>rfl
  |true=>exact Zty (oa.jmp r hr e).2 hj
theorem ZQs{d:Nat}:(mvs d T).length=T.length:=by unfold mvs;rw[List.length_map]
theorem Zim{g:Nat->Rows->Rows}{a:Nat}{R:Rows}:∀b,win g (a+b) R=win (λp=>g (a+p)) b (win g a R)
 |0=>rfl
 |b+1=>congrArg (g (a+b)) (Zim b)
theorem Zel{g:Nat->Rows->Rows}{R:Rows}{P:Nat->Rows->Prop}(h0:P 0 R)(hs:∀k X,k < n->P k X->P (k+1) (g k X)):∀k,k<=n->P k (win g k R)
 |0,_=>h0
 |k+1,h=>hs k _ h (Zel h0 hs k (Nat.le_of_succ_le h))
theorem ZId{gJ gA gS:Nat->Rows->Rows}(IA IS:Rows->Prop){B0 T0:Rows}
  (hA:∀p B T,B.length=m->IA B->p+w < m->gJ p (B++T)=gA p B++T/\(gA p B).length=m/\IA (gA p B))
  (hX:∀p B,B.length=m->IA B->p < m->m<=p+w->gJ p (B++mvs m T0)=B++mvs m T0)
  (hS:∀p B T,B.length=m->T.length=n->IS T->p+w < n->gJ (m+p) (B++mvs m T)=B++mvs m (gS p T)/\(gS p T).length=n/\IS (gS p T))
  (b1:B0.length=m)(b2:IA B0)(t1:T0.length=n)(t2:IS T0):(win gJ (m+n - w) (B0++mvs m T0)=win gA (m - w) B0++mvs m (win gS (n - w) T0))/\(win gA (m - w) B0).length=m/\IA (win gA (m - w) B0):=by
 obtain⟨a1,a2,a3⟩:=Zel (g:=gJ) (R:=B0++mvs m T0) (n:=m - w) (P:=λk X=>X=win gA k B0++mvs m T0/\(win gA k B0).length=m/\IA (win gA k B0)) ⟨rfl,b1,b2⟩ (λk X hk h=>h.1▸hA k _ _ h.2.1 h.2.2 (Nat.add_lt_of_lt_sub hk)) _ (Nat.le_refl _)
 refine⟨?_,a2,a3⟩
 generalize win gA (m - w) B0=B at a1 a2 a3
 have ph2:∀b,b<=m - (m - w)->win gJ (m - w+b) (B0++mvs m T0)=B++mvs m T0:=λb hb=>by
  rw[Zim,a1]
  exact Zel (R:=B++mvs m T0) (n:=m - (m - w)) (P:=λ_ X=>X=B++mvs m T0) rfl (λk X hk h=>by
   rw[h]
   exact hX _ _ a2 a3 (Nat.add_lt_of_lt_sub' hk) (by rw[Nat.add_right_comm];exact Nat.le_trans (Nat.sub_le_iff_le_add.mp (Nat.le_refl _)) (Nat.le_add_right _ _))) b hb
 by_cases h:w<=n
 .have z:=ph2 _ (Nat.le_refl _)
  rw[Nat.add_sub_of_le (Nat.sub_le m w)]at z
  rw[Nat.add_sub_assoc h,Zim,z]
  exact(Zel (R:=B++mvs m T0) (n:=n - w) (P:=λj X=>X=B++mvs m (win gS j T0)/\(win gS j T0).length=n/\IS (win gS j T0)) ⟨rfl,t1,t2⟩ (λk X hk h=>h.1▸hS k _ _ a2 h.2.1 h.2.2 (Nat.add_lt_of_lt_sub hk)) _ (Nat.le_refl _)).1
 .have h:=Nat.le_of_lt (Nat.lt_of_not_le h)
  rw[Nat.sub_eq_zero_of_le h,<- Nat.add_sub_of_le (Nat.sub_le_sub_right (Nat.le_add_right m n) w)]
  exact ph2 _ (Nat.sub_le_sub_right (Nat.sub_le_of_le_add (Nat.add_le_add_left h m)) _)
end
section
variable{A S:Cd}{B T R:Rows}{sk p:Nat}{mk mk':Nat->Bool}{o:Option Rw}{r:Rw}
noncomputable def NoJ(A:Cd):Prop:=∀r∈A.rows,r.op.isJ=false
structure IA(A:Cd)(B:Rows):Prop where
 orig:∀(p:Nat) (r:Rw),B[p]?=some (some r)->A.rows[p]?=some r\/r.op.isJ=true
 ja:JA B
 t:∀r:Rw,some r∈B->r.op.isJ=true->r.t<=A.rows.length
 nj:NoJ A->∀r:Rw,some r∈B->r.op.isJ=false
theorem ZCc{q:Option Rw}{i:Nat}(h:(B.set p o)[i]?=some q):q=o\/B[i]?=some q:=by
 rw[List.getElem?_set]at h
 by_cases e:p=i
 .rw[if_pos e]at h;exact .inl (Option.some.inj (Option.ite_none_right_eq_some.mp h).2).symm
 .rw[if_neg e]at h;exact .inr h
theorem Jt{q:Option Rw}(h:q∈B.set p o):q=o\/q∈B:=(List.mem_or_eq_of_mem_set h).symm
theorem IA.set(h:IA A B)(ho:∀r,o=some r->r.op.isJ=true/\r.a=nat r.t/\r.t<=A.rows.length/\¬NoJ A):IA A (B.set p o):=
 ⟨λi r e=>(ZCc e).elim (λz=>.inr (ho r z.symm).1) (h.orig i r),λr hr hj=>(Jt hr).elim (λz=>(ho r z.symm).2.1) λz=>h.ja r z hj,
  λr hr hj=>(Jt hr).elim (λz=>(ho r z.symm).2.2.1) λz=>h.t r z hj,λhn r hr=>(Jt hr).elim (λz=>absurd hn (ho r z.symm).2.2.2) (h.nj hn r)⟩
theorem IA.non(h:IA A B):IA A (B.set p none):=h.set λr e=>by cases e
theorem JA.set(h:JA T)(ho:∀r,o=some r->r.a=nat r.t):JA (T.set p o):=λr hr hj=>(Jt hr).elim (λz=>ho r z.symm) λz=>h r z hj
theorem Zab(h:some r∈A.all):r∈A.rows:=by
 obtain⟨q,h1,h2⟩:=List.mem_map.mp h
 cases h2;exact h1
theorem IA.init(oa:Oo A):IA A A.all:=by
 refine⟨λp r e=>.inl ?_,λr hr hj=>(oa.jmp r (Zab hr) hj).1,λr hr hj=>(oa.jmp r (Zab hr) hj).2,λhn r hr=>hn r (Zab hr)⟩
 unfold Cd.all at e
 rw[List.getElem?_map]at e
 obtain⟨q,h1,h2⟩:=Option.map_eq_some_iff.mp e
 cases h2;exact h1
theorem IA.copy(h:IA A B):IA A (Yr mk p B):=by
 unfold Yr
 cases Yu [.dup] (at_ B p)&&Yu ZHn (at_ B (p+1))&&Yu [.pop] (at_ B (p+2))&&(!mk (p+1)&&!mk (p+2))
 .exact h
 .exact h.non.non
theorem IA.jj(h:IA A B)(hr:some r∈B)(hj:r.op.isJ=true):r.a=nat r.t/\r.t<=A.rows.length/\¬NoJ A:=⟨h.ja r hr hj,h.t r hr hj,λhn=>absurd ((h.nj hn r hr).symm.trans hj) Bool.false_ne_true⟩
theorem IA.ap{x:W2}(h:IA A B)(h1:∀y,x=some y->y.1=at_ B p\/∀r,y.1=some r->r.op.isJ=true/\r.a=nat r.t/\r.t<=A.rows.length/\¬NoJ A)(h2:∀y,x=some y->∀r,y.2=some r->r.op.isJ=true/\r.a=nat r.t/\r.t<=A.rows.length/\¬NoJ A):IA A (Mine.ap p x B):=by
 cases x with
 |none=>exact h
 |some y=>
  refine IA.set ?_ (h2 y rfl)
  rcases h1 y rfl with e|e
  .rw[e,Zzl];exact h
  .exact h.set e
theorem Zzf{m:Bool}{a b:Option Rw}{y:Option Rw×Option Rw}(e:Znu m p a b=some y):y.2=none/\∃c r,b=some c/\c.op.isJ=true/\y.1=some r/\r.op.isJ=true/\r.a=c.a:=by
 cases a with
 |none=>cases e
 |some q=>
  cases b with
  |none=>cases e
  |some c=>
   obtain⟨h,e⟩:=Zct e
   have e:=Option.some.inj e
   have hj:c.op=.jump:=eq_of_beq ((Bool.and_eq_true _ _).mp ((Bool.and_eq_true _ _).mp ((Bool.and_eq_true _ _).mp h).1).1).2
   subst e
   exact⟨rfl,c,_,rfl,by rw[hj];rfl,rfl,by dsimp only;cases q.op==.jumpif <;> rfl,rfl⟩
theorem Zrs{c:Cd}{m:Bool}{a b:Option Rw}{y:Option Rw×Option Rw}(e:Zag c m a b=some y):y.1=none/\∀r,y.2=some r->∃d,b=some d/\d.op.isJ=true/\r.op.isJ=true/\((r.a=d.a/\r.t=d.t)\/(r.a=nat r.t/\∃q,c.rows[d.t]?=some q/\Xe.contains q.op=true/\(r.t=q.t\/r.t=d.t+1))):=by
 cases a with
 |none=>cases e
 |some s=>
  cases b with
  |none=>cases e
  |some d=>
   have e:(bif !(s.op==.push)||m then none else fK c s d)=some y:=e
   cases hm:!(s.op==.push)||m with
   |true=>rw[hm]at e;cases e
   |false=>
    rw[hm]at e
    have e:fK c s d=some y:=e
    unfold fK at e
    cases hb:Xe.contains d.op with
    |true=>
     rw[hb]at e
     have e:(none,if Jh s.a==(d.op==.jumpif)then some (⟨.jump,d.a,.none,d.line⟩:Rw)else none)=y:=Option.some.inj e
     subst e
     exact⟨rfl,λr hr=>⟨d,rfl,Zoe hb,Option.some.inj (Option.ite_none_right_eq_some.mp hr).2▸⟨rfl,.inl ⟨rfl,rfl⟩⟩⟩⟩
    |false=>
     rw[hb]at e
     obtain⟨hj,e⟩:=Zct (b:=d.op==.jump) e
     have hJ:d.op.isJ=true:=by rw[eq_of_beq hj];rfl
     exact Zh e λq h1 h2=>by
      obtain⟨h3,h4⟩:=Zct h2
      have h4:=Option.some.inj h4
      subst h4
      exact⟨rfl,λr hr=>⟨d,rfl,hJ,Option.some.inj hr▸⟨hJ,.inr ⟨rfl,q,h1,h3,by cases Jh s.a==(q.op==.jumpif);exact .inr rfl;exact .inl rfl⟩⟩⟩⟩
theorem ZPf(h:JA T):∀r,at_ T p=some r->r.op.isJ=true->r.a=nat r.t:=λr e hj=>h r (Zih e) hj
theorem JA.ap{x:W2}(h:JA T)(h1:∀y,x=some y->∀r,y.1=some r->r.a=nat r.t)(h2:∀y,x=some y->∀r,y.2=some r->r.a=nat r.t):JA (Mine.ap p x T):=by
 cases x with
 |none=>exact h
 |some y=>exact(h.set (h1 y rfl)).set (h2 y rfl)
theorem ZPm{r c:Rw}(e:r.a=c.a):r.t=c.t:=by unfold Rw.t;rw[e]
theorem JA.turn(h:JA T):JA (Xg mk p T):=by
 rw[Zbf]
 refine h.ap (λy e r hr=>?_) λy e r hr=>?_ <;> obtain⟨e1,c,q,hc,hj,e2,hq,ea⟩:=Zzf e
 .obtain rfl:=Option.some.inj (e2.symm.trans hr)
  exact(ea.trans (ZPf h c hc hj)).trans (congrArg nat (ZPm ea).symm)
 .rw[e1]at hr;cases hr
theorem JA.known{c:Cd}(h:JA T):JA (Ya c mk p T):=by
 rw[Ql]
 refine h.ap (λy e r hr=>?_) λy e r hr=>?_ <;> obtain⟨e1,e2⟩:=Zrs e
 .rw[e1]at hr;cases hr
 .obtain⟨d,hd,hj,_,⟨ea,et⟩|⟨ea,_⟩⟩:=e2 r hr
  .rw[ea,ZPf h d hd hj,et]
  .exact ea
theorem IA.turn(h:IA A B):IA A (Xg mk p B):=by
 rw[Zbf]
 refine h.ap (λy e=>.inr λr hr=>?_) λy e r hr=>?_ <;> obtain⟨e1,c,q,hc,hj,e2,hq,ea⟩:=Zzf e
 .obtain rfl:=Option.some.inj (e2.symm.trans hr)
  obtain⟨g1,g2,g3⟩:=h.jj (Zih hc) hj
  exact⟨hq,(ea.trans g1).trans (congrArg nat (ZPm ea).symm),ZPm ea▸g2,g3⟩
 .rw[e1]at hr;cases hr
theorem IA.known(oa:Oo A)(h:IA A B):IA A (Ya A mk p B):=by
 rw[Ql]
 refine h.ap (λy e=>.inr λr hr=>?_) λy e r hr=>?_ <;> obtain⟨e1,e2⟩:=Zrs e
 .rw[e1]at hr;cases hr
 .obtain⟨d,hd,hj,hr,⟨ea,et⟩|⟨ea,q,hq,hb,et⟩⟩:=e2 r hr <;> obtain⟨g1,g2,g3⟩:=h.jj (Zih hd) hj
  .exact⟨hr,(ea.trans g1).trans (congrArg nat et.symm),et▸g2,g3⟩
  .refine⟨hr,ea,?_,g3⟩
   rcases et with et|et <;> rw[et]
   .exact(oa.jmp q (List.mem_of_getElem? hq) (Zoe hb)).2
   .exact(List.getElem?_eq_some_iff.mp hq).1
theorem IA.push(h:IA A B):IA A (Je mk p B):=by
 rw[Zds]
 exact h.ap (λy e=>.inr λr hr=>by rw[<- Option.some.inj (Zct e).2]at hr;cases hr) λy e r hr=>by rw[<- Option.some.inj (Zct e).2]at hr;cases hr
theorem IA.swap(h:IA A B):IA A (Jd mk p B):=by
 rw[Zdp]
 have o:∀y,Zfs (mk (p+1)) (at_ B p) (at_ B (p+1))=some y->(y.1=at_ B p\/y.1=none)/\y.2=none:=λy e=>by
  unfold Zfs at e
  cases hc:!Yu [.swap] (at_ B (p+1))||mk (p+1)with
  |true=>rw[hc]at e;cases e
  |false=>
   rw[hc]at e
   cases hd:Yu [.swap] (at_ B p)with
   |true=>rw[hd]at e;exact Option.some.inj e▸⟨.inr rfl,rfl⟩
   |false=>rw[hd]at e;exact Option.some.inj (Zct (b:=Yu [.dup] (at_ B p)) e).2▸⟨.inl rfl,rfl⟩
 exact h.ap (λy e=>(o y e).1.imp id λz r hr=>nomatch z.symm.trans hr) λy e r hr=>nomatch (o y e).2.symm.trans hr
theorem Qc:(jn A S sk).rows.length=A.rows.length+S.rows.length:=by show(A.rows++S.rows.map _).length=_;rw[List.length_append,List.length_map]
noncomputable def Inert(S:Cd):Prop:=∃r,S.rows[0]?=some r/\(r.op=.text\/r.op=.undef\/r.op=.fail)
noncomputable def Zuk(A:Cd):Prop:=∀r,A.rows[A.rows.length - 1]?=some r->Zqn.contains r.op=false/\r.op≠.swap/\(ZHn.contains r.op=true->2<=A.rows.length->∀q,A.rows[A.rows.length - 2]?=some q->q.op≠.dup)
noncomputable def Sf(A S:Cd):Prop:=Inert S\/Zuk A
theorem ZOd:(jn A S sk).all=A.all++mvs A.rows.length S.all:=by
 unfold Cd.all jn mvs
 dsimp only
 rw[List.map_append,List.map_map,List.map_map];rfl
theorem ZNt{c:Cd}{p:Nat}:at_ c.all p=c.rows[p]?:=by
 unfold at_ Cd.all
 rw[List.getElem?_map]
 cases c.rows[p]? <;> rfl
theorem Zub(hl:B.length=A.rows.length):at_ (B++mvs A.rows.length S.all) A.rows.length=(S.rows[0]?).map (·.mv A.rows.length):=by
 have:=at2 (B:=B) (T:=S.all) (p:=0) (d:=A.rows.length)
 rw[Nat.add_zero,ZNt,hl]at this
 exact this
theorem Ub{l:List Op}{d:Nat}(h:Inert S)(h1:l.contains .text=false)(h2:l.contains .undef=false)(h3:l.contains .fail=false):Yu l ((S.rows[0]?).map (·.mv d))=false:=by
 obtain⟨r,e,h⟩:=h
 rw[e]
 show l.contains (r.mv d).op=false
 rw[Xa]
 rcases h with h|h|h <;> rw[h] <;> assumption
theorem Zje(h:IA A B){l:List Op}{k:Nat}(hb:Yu l (at_ B k)=true)(hn:∀o∈l,o.isJ=false):∃r,A.rows[k]?=some r/\r.op∈l:=by
 obtain⟨r,e1,e2⟩:=Qd hb
 rcases h.orig k r (ZHu e1)with z|z
 .exact⟨r,z,e2⟩
 .rw[hn _ e2]at z;cases z
theorem Zby{gJ gA gS:Nat->Rows->Rows}{w:Nat}(IS:Rows->Prop)(oa:Oo A)
  (hA:∀p B T,B.length=A.rows.length->IA A B->p+w < A.rows.length->gJ p (B++T)=gA p B++T/\(gA p B).length=A.rows.length/\IA A (gA p B))
  (hX:∀p B,B.length=A.rows.length->IA A B->p < A.rows.length->A.rows.length<=p+w->gJ p (B++mvs A.rows.length S.all)=B++mvs A.rows.length S.all)
  (hS:∀p B T,B.length=A.rows.length->T.length=S.rows.length->IS T->p+w < S.rows.length->gJ (A.rows.length+p) (B++mvs A.rows.length T)=B++mvs A.rows.length (gS p T)/\(gS p T).length=S.rows.length/\IS (gS p T))(t2:IS S.all):
  (jn A S sk).pressed (win gJ ((jn A S sk).rows.length - w) (jn A S sk).all)=jn (A.pressed (win gA (A.rows.length - w) A.all)) (S.pressed (win gS (S.rows.length - w) S.all)) sk:=by
 obtain⟨e,e2,e3⟩:=ZId (IA A) IS hA hX hS Zcx (IA.init oa) Zcx t2
 rw[ZOd,Qc,e]
 exact Ju oa e2 λr hr hj=>e2.symm▸e3.t r hr hj
theorem Jl(h:IA A B)(hp:p+1=A.rows.length)(z:Zuk A){l:List Op}(hl:∀o∈l,o.isJ=false)(h0:∀o∈l,Zqn.contains o=true\/o=.swap)(hb:Yu l (at_ B p)=true):False:=by
 obtain⟨r,e1,e2⟩:=Zje h hb hl
 have q:=z r (by rw[<- hp];exact e1)
 rcases h0 _ e2 with e|e
 .exact Bool.false_ne_true (q.1.symm.trans e)
 .exact q.2.1 e
theorem Zfn{l:List Op}{a:Option Rw}(h:¬Yu l a=true):Yu l a=false:=Bool.eq_false_iff.mpr h
theorem Qy(oa:Oo A)(hs:HS S sk)(sf:Sf A S):(jn A S sk).pushes=jn A.pushes S.pushes sk:=
 Zby (w:=1) (λ_=>True) oa
  (λp B T hl hB hp=>have h:p+1 < B.length:=hl▸hp
   ⟨by rw[Zds,Zds,at1 (Nat.lt_of_succ_lt h),at1 h,Uu hp,ap1 h],(Zqe p B hp hl).1,hB.push⟩)
  (λp B hl hB hp1 hp2=>by
   have hp:p+1=A.rows.length:=Nat.le_antisymm hp1 hp2
   have e:Zjp ((jn A S sk).mark (p+1)) (at_ (B++mvs A.rows.length S.all) p) (at_ (B++mvs A.rows.length S.all) (p+1))=none:=by
    unfold Zjp
    rw[hp,Zub hl,at1 (hl▸hp1)]
    rcases sf with z|z
    .rw[Ub z rfl rfl rfl,Bool.and_false];rfl
    .rw[Zfn (Jl hB hp z (l:=Zqn) (by decide) λo h=>.inl (List.contains_iff_mem.mpr h))];rfl
   rw[Zds,e];rfl)
  (λp B T hl hT _ hp=>⟨by rw[<- hl,Zds,Zds,Nat.add_assoc,at2,at2,hl,Uv oa hs (Nat.le_add_left 1 p),ZKb,<- hl,ap2],(Zqe p T hp hT).1,trivial⟩) trivial
end
section
variable{A S:Cd}{B T R:Rows}{sk p:Nat}{mk mk':Nat->Bool}{o:Option Rw}{r:Rw}
theorem Uh(oa:Oo A)(hs:HS S sk)(sf:Sf A S):(jn A S sk).copies=jn A.copies S.copies sk:=
 Zby (w:=2) (λ_=>True) oa
  (λp B T hl hB hp=>have h:p+2 < B.length:=hl▸hp
   ⟨by
    rw[ZSo h]
    unfold Yr
    rw[Uu (Nat.lt_of_succ_lt hp),Uu hp],(Ztm p B (Nat.lt_of_succ_lt hp) hl).1,hB.copy⟩)
  (λp B hl hB hp1 hp2=>by
   unfold Yr
   rw[if_neg]
   intro hc
   obtain⟨h1,c3⟩:=(Bool.and_eq_true _ _).mp ((Bool.and_eq_true _ _).mp hc).1
   obtain⟨c1,c2⟩:=(Bool.and_eq_true _ _).mp h1
   rw[at1 (hl▸hp1)]at c1
   rcases Nat.lt_or_eq_of_le hp1 with hp|hp
   .have hp':p+2=A.rows.length:=Nat.le_antisymm hp hp2
    rw[hp',Zub hl]at c3
    rcases sf with z|z
    .rw[Ub z rfl rfl rfl]at c3;cases c3
    .rw[at1 (hl▸hp)]at c2
     obtain⟨r,e1,e2⟩:=Zje hB c1 (by decide)
     obtain⟨q,f1,f2⟩:=Zje hB c2 (by decide)
     exact(z q (by rw[<- hp'];exact f1)).2.2 (List.contains_iff_mem.mpr f2) (hp'▸Nat.le_add_left 2 p) r (by rw[<- hp'];exact e1) (List.mem_singleton.mp e2)
   .rw[show p+1=A.rows.length from hp,Zub hl]at c2
    rcases sf with z|z
    .rw[Ub z rfl rfl rfl]at c2;cases c2
    .exact Jl hB hp z (l:=[.dup]) (by decide) (by decide) c1)
  (λp B T hl hT _ hp=>⟨by
   rw[<- hl]
   exact ZSn (by rw[hl,Nat.add_assoc];exact Uv oa hs (Nat.le_add_left _ _)) (by rw[hl,Nat.add_assoc];exact Uv oa hs (Nat.le_add_left 1 (p+1))),(Ztm p T (Nat.lt_of_succ_lt hp) hT).1,trivial⟩) trivial
theorem Zar(oa:Oo A)(hs:HS S sk)(sf:Sf A S):(jn A S sk).swaps=jn A.swaps S.swaps sk:=
 Zby (w:=1) (λ_=>True) oa
  (λp B T hl hB hp=>have h:p+1 < B.length:=hl▸hp
   ⟨by rw[Zdp,Zdp,at1 (Nat.lt_of_succ_lt h),at1 h,Uu hp,ap1 h],(Zoz p B hp hl).1,hB.swap⟩)
  (λp B hl hB hp1 hp2=>by
   have hp:p+1=A.rows.length:=Nat.le_antisymm hp1 hp2
   have e:Zfs ((jn A S sk).mark (p+1)) (at_ (B++mvs A.rows.length S.all) p) (at_ (B++mvs A.rows.length S.all) (p+1))=none:=by
    unfold Zfs
    rw[hp,Zub hl,at1 (hl▸hp1)]
    rcases sf with z|z
    .rw[Ub z rfl rfl rfl];rfl
    .rw[Zfn (Jl hB hp z (l:=[.swap]) (by decide) (by decide)),Zfn (Jl hB hp z (l:=[.dup]) (by decide) (by decide))]
     cases !Yu [.swap] ((S.rows[0]?).map (·.mv A.rows.length))||(jn A S sk).mark A.rows.length <;> rfl
   rw[Zdp,e];rfl)
  (λp B T hl hT _ hp=>⟨by rw[<- hl,Zdp,Zdp,Nat.add_assoc,at2,at2,hl,Uv oa hs (Nat.le_add_left 1 p),ZIs,<- hl,ap2],(Zoz p T hp hT).1,trivial⟩) trivial
theorem ZAl(h:∀r∈S.rows,r.op.isJ=true->r.a=nat r.t):JA S.all:=λr hr hj=>h r (Zab hr) hj
theorem Qp(oa:Oo A)(hj:∀r∈S.rows,r.op.isJ=true->r.a=nat r.t)(hs:HS S sk):(jn A S sk).turned=jn A.turned S.turned sk:=
 Zby (w:=1) JA oa
  (λp B T hl hB hp=>have h:p+1 < B.length:=hl▸hp
   ⟨by rw[Zbf,Zbf,at1 (Nat.lt_of_succ_lt h),at1 h,Uu hp,ap1 h],(Zop p B hp hl).1,hB.turn⟩)
  (λp B hl hB hp1 hp2=>by
   have hp:p+1=A.rows.length:=Nat.le_antisymm hp1 hp2
   have e:∀(m:Bool) (b:Option Rw),Znu m p (at_ B p) b=none:=λm b=>by
    cases ha:at_ B p with
    |none=>rfl
    |some r=>
     cases b with
     |none=>rfl
     |some b=>
      show(bif _&&_&&r.t==p+2&&_ then _ else none:W2)=none
      cases hb:Xe.contains r.op with
      |false=>rfl
      |true=>rw[beq_eq_false_iff_ne.mpr (Nat.ne_of_lt (Nat.lt_of_le_of_lt (hB.t r (Zih ha) (Zoe hb)) (hp▸Nat.lt_succ_self _))),Bool.and_false];rfl
   rw[Zbf,at1 (hl▸hp1),e];rfl)
  (λp B T hl hT hJ hp=>⟨by rw[<- hl,Zbf,Zbf,Nat.add_assoc,at2,at2,hl,Uv oa hs (Nat.le_add_left 1 p),ZIg (ZPf hJ),<- hl,ap2],(Zop p T hp hT).1,hJ.turn⟩) (ZAl hj)
theorem Zaw(oa:Oo A)(hj:∀r∈S.rows,r.op.isJ=true->r.a=nat r.t)(hs:HS S sk)(sf:Sf A S)(h0:(∀r,S.rows[0]?=some r->Xe.contains r.op=false)\/NoJ A):(jn A S sk).known=jn A.known S.known sk:=
 Zby (w:=1) JA oa
  (λp B T hl hB hp=>have h:p+1 < B.length:=hl▸hp
   ⟨by rw[Ql,Ql,at1 (Nat.lt_of_succ_lt h),at1 h,Uu hp,Zws (λr e hj=>hB.t r (Zih e) hj) (h0.imp id λn r e=>hB.nj n r (Zih e)),ap1 h],(Zjf p B hp hl).1,hB.known oa⟩)
  (λp B hl hB hp1 hp2=>by
   have hp:p+1=A.rows.length:=Nat.le_antisymm hp1 hp2
   have e:∀m,Zag (jn A S sk) m (at_ B p) ((S.rows[0]?).map (·.mv A.rows.length))=none:=λm=>by
    cases ha:at_ B p with
    |none=>rfl
    |some r=>
     cases hb:(S.rows[0]?).map (·.mv A.rows.length)with
     |none=>rfl
     |some b=>
      show(cond (!(r.op==.push)||m) none (fK (jn A S sk) r b):W2)=none
      rcases sf with z|z
      .have q:=Ub (d:=A.rows.length) (l:=.jump::Xe) z rfl rfl rfl
       rw[hb]at q
       have q:(Op.jump::Xe).contains b.op=false:=q
       rw[List.contains_cons,Bool.or_eq_false_iff]at q
       unfold fK
       rw[q.1,q.2]
       cases !(r.op==.push)||m <;> rfl
      .have q:=Zfn (Jl hB hp z (l:=[.push]) (by decide) (by decide))
       rw[ha]at q
       have q:[Op.push].contains r.op=false:=q
       rw[List.contains_cons,Bool.or_eq_false_iff]at q
       rw[q.1];rfl
   rw[Ql,hp,Zub hl,at1 (hl▸hp1),e];rfl)
  (λp B T hl hT hJ hp=>⟨by rw[<- hl,Ql,Ql,Nat.add_assoc,at2,at2,hl,Uv oa hs (Nat.le_add_left 1 p),Zwr (ZPf hJ),<- hl,ap2],(Zjf p T hp hT).1,hJ.known⟩) (ZAl hj)
theorem ZBi{α β:Type}{f g:α×Nat->β}{l:List α}:∀{n:Nat},(∀i r,l[i]?=some r->f (r,n+i)=g (r,n+i))->(l.zipIdx n).map f=(l.zipIdx n).map g:=by
 induction l with
 |nil=>exactλ_=>rfl
 |cons a l ih=>
  intro n h
  rw[List.zipIdx_cons,List.map_cons,List.map_cons,show f (a,n)=g (a,n)from h 0 a rfl,ih λi r e=>by rw[Nat.add_right_comm];exact h (i+1) r e]
theorem ZIa{α β γ:Type}{f:α×Nat->γ}{g:β×Nat->γ}{k:β->α}{d:Nat}{l:List β}:∀{n:Nat},(∀i r,l[i]?=some r->f (k r,d+(n+i))=g (r,n+i))->((l.map k).zipIdx (d+n)).map f=(l.zipIdx n).map g:=by
 induction l with
 |nil=>exactλ_=>rfl
 |cons a l ih=>
  intro n h
  rw[List.map_cons,List.zipIdx_cons,List.zipIdx_cons,List.map_cons,List.map_cons,show f (k a,d+n)=g (a,n)from h 0 a rfl]
  exact congrArg (g (a,n)::·) (ih (n:=n+1) λi r e=>by rw[Nat.add_right_comm];exact h (i+1) r e)
theorem Zoi{f g h:Rw×Nat->Option Rw}(h1:∀i r,A.rows[i]?=some r->f (r,i)=g (r,i))(h2:∀i r,S.rows[i]?=some r->f (r.mv A.rows.length,A.rows.length+i)=(h (r,i)).map (·.mv A.rows.length)):(jn A S sk).rows.zipIdx.map f=A.rows.zipIdx.map g++mvs A.rows.length (S.rows.zipIdx.map h):=by
 have e:(jn A S sk).rows=A.rows++S.rows.map (·.mv A.rows.length):=rfl
 rw[e,List.zipIdx_append,List.map_append]
 unfold mvs
 rw[List.map_map,Nat.zero_add,ZBi (n:=0) (g:=g) λi r e=>by rw[Nat.zero_add];exact h1 i r e]
 exact congrArg _ (ZIa (n:=0) λi r e=>by rw[Nat.zero_add];exact h2 i r e)
theorem Zat(oa:Oo A):(jn A S sk).short=jn A.short S.short sk:=by
 unfold Cd.short
 rw[Zoi (f:=λx=>Zg x.2 x.1) (g:=λx=>Zg x.2 x.1) (h:=λx=>Zg x.2 x.1) (λi r _=>rfl) λi r _=>?_]
 .refine Ju oa (by rw[List.length_map,List.length_zipIdx]) λr hr hj=>?_
  rw[List.length_map,List.length_zipIdx]
  obtain⟨x,hx,e⟩:=List.mem_map.mp hr
  have hm:x.1∈A.rows:=(List.mem_zipIdx hx).2.2▸List.getElem_mem _
  unfold Zg at e
  cases h1:x.1.op.isJ&&x.1.t==x.2+1 with
  |false=>rw[h1]at e;exact Option.some.inj e▸(oa.jmp _ hm (Option.some.inj e▸hj)).2
  |true=>
   rw[h1]at e
   rw[<- Option.some.inj (Option.ite_none_right_eq_some.mp e).2]at hj
   cases hj
 .dsimp only
  unfold Zg
  rw[Xa,Zfh,Nat.add_assoc]
  cases hj:r.op.isJ with
  |false=>rfl
  |true=>
   rw[Zoh hj,Zif]
   cases r.t==i+1
   .rfl
   .cases Xe.contains r.op <;> rfl
end
section
variable{A S:Cd}{B T R:Rows}{sk p:Nat}{o:Option Rw}{r:Rw}
theorem Zsz{α:Type}{l:List α}{p:α->Bool}(h:∀a∈l,p a=false):l.filter p=[]:=by
 rw[List.filter_eq_nil_iff]
 exactλa ha=>by rw[h a ha];nofun
theorem Zkm(hp:p < A.rows.length):(jn A S sk).succ p=A.succ p:=by
 unfold Cd.succ
 rw[Yl hp]
 cases A.rows[p]? with
 |none=>rfl
 |some r=>
  dsimp only
  congr 2
  show(A.catches++S.catches.map _).filter _=_
  rw[List.filter_append,Zsz (l:=S.catches.map _),List.append_nil]
  intro k hk
  obtain⟨q,_,rfl⟩:=List.mem_map.mp hk
  show(decide (q.first+A.rows.length<=p)&&_)=false
  rw[decide_eq_false (Nat.not_le.2 (Nat.lt_of_lt_of_le hp (Nat.le_add_left _ _)))];rfl
theorem Zzj(oa:Oo A):(jn A S sk).succ (A.rows.length+p)=(S.succ p).map (·+A.rows.length):=by
 unfold Cd.succ
 rw[Zaf]
 cases S.rows[p]? with
 |none=>rfl
 |some r=>
  dsimp only[Option.map_some]
  rw[Xa,List.map_append,List.map_append]
  congr 1
  .congr 1
   .cases hj:r.op.isJ with
    |false=>rfl
    |true=>rw[if_pos rfl,if_pos rfl,Zoh hj];rfl
   .cases r.op.isEnd with
    |true=>rfl
    |false=>
     show[A.rows.length+p+1]=[p+1+A.rows.length]
     exact congrArg (λx=>[x]) ((congrArg (·+1) (Nat.add_comm _ _)).trans (Nat.add_right_comm _ _ _))
  .show((A.catches++S.catches.map _).filter _).map _=_
   rw[List.filter_append,Zsz (l:=A.catches),List.nil_append,List.filter_map,List.map_map,List.map_map]
   .have:((λk:Ct=>decide (k.first<=A.rows.length+p)&&decide (A.rows.length+p < k.last)) ∘ λx=>x.mv A.rows.length)=λk:Ct=>decide (k.first<=p)&&decide (p < k.last):=by
     funext k
     show(decide (k.first+A.rows.length<=A.rows.length+p)&&decide (A.rows.length+p < k.last+A.rows.length))=_
     rw[decide_eq_decide.mpr (show k.first+A.rows.length<=A.rows.length+p↔k.first<=p by rw[Nat.add_comm];exact Nat.add_le_add_iff_left),decide_eq_decide.mpr (show A.rows.length+p < k.last+A.rows.length↔p < k.last by rw[Nat.add_comm];exact Nat.add_lt_add_iff_right)]
    rw[this];rfl
   .intro k hk
    have:=(oa.cat k hk).2.1
    rw[Bool.and_eq_false_iff]
    exact .inr (decide_eq_false (Nat.not_lt.2 (Nat.le_trans this (Nat.le_add_right _ _))))
set_option tactic.hygienic true in
theorem Zeo(oa:Oo A){q:Nat}(h:q∈A.succ p):q<=A.rows.length/\p < A.rows.length:=by
 unfold Cd.succ at h
 cases hp:A.rows[p]? with
 |none=>rw[hp]at h;cases h
 |some r=>
  have hpl:=(List.getElem?_eq_some_iff.mp hp).1
  rw[hp]at h
  dsimp only at h
  refine⟨?_,hpl⟩
  rw[List.mem_append,List.mem_append]at h
  rcases h with(h|h)|h
  .split at h
   .rename_i hj
    rw[List.mem_singleton.mp h]
    exact(oa.jmp r (List.mem_of_getElem? hp) hj).2
   .cases h
  .split at h
   .cases h
   .rw[List.mem_singleton.mp h];exact hpl
  .obtain⟨k,hk,rfl⟩:=List.mem_map.mp h
   exact(oa.cat k (List.mem_filter.mp hk).1).2.2
theorem Zbn{x:Nat}(oa:Oo A)(h:Reach A x):Reach (jn A S sk) x:=by
 induction h with
 |start hs=>exact .start (List.mem_append_left _ hs)
 |step _ hq ih=>exact .step ih (by rw[Zkm (Zeo oa hq).2];exact hq)
noncomputable def Led(A S:Cd)(sk:Nat):Prop:=sk=0\/(sk=1/\(∃r,S.starts=0::r)/\Reach A A.rows.length)
set_option tactic.hygienic true in
theorem ZCk{x:Nat}(oa:Oo A)(hl:Led A S sk)(h:Reach S x):Reach (jn A S sk) (A.rows.length+x):=by
 induction h with
 |start hs=>
  rename_i s
  rcases hl with rfl|⟨rfl,⟨r,e⟩,hr⟩
  .exact .start (List.mem_append_right _ (List.mem_map.mpr ⟨_,hs,Nat.add_comm _ _⟩))
  .rw[e]at hs
   rcases List.mem_cons.mp hs with h0|h0
   .rw[h0];exact Zbn oa hr
   .refine .start (List.mem_append_right _ (List.mem_map.mpr ⟨_,?_,Nat.add_comm _ _⟩))
    rw[e];exact h0
 |step _ hq ih=>exact .step ih (by rw[Zzj oa,Nat.add_comm];exact List.mem_map.mpr ⟨_,hq,rfl⟩)
theorem Zit{x:Nat}(oa:Oo A)(h0:0∈S.starts\/¬Reach A A.rows.length)(h:Reach (jn A S sk) x):(x < A.rows.length/\Reach A x)\/∃i,x=A.rows.length+i/\Reach S i:=by
 have key:∀{x},x<=A.rows.length->Reach A x->(x < A.rows.length/\Reach A x)\/∃i,x=A.rows.length+i/\Reach S i:=λ{x} hx hr=>by
  by_cases e:x < A.rows.length
  .exact .inl ⟨e,hr⟩
  .obtain rfl:x=A.rows.length:=Nat.le_antisymm hx (Nat.le_of_not_lt e)
   exact .inr ⟨0,rfl,.start (h0.resolve_right (λn=>n hr))⟩
 induction h with
 |start hs=>
  rcases List.mem_append.mp hs with z|z
  .exact key (oa.sta _ z) (.start z)
  .obtain⟨s,h1,rfl⟩:=List.mem_map.mp z
   exact .inr ⟨s,Nat.add_comm _ _,.start (List.mem_of_mem_drop h1)⟩
 |step _ hq ih=>
  rcases ih with⟨h1,h2⟩|⟨i,rfl,h2⟩
  .rw[Zkm h1]at hq
   exact key (Zeo oa hq).1 (.step h2 hq)
  .rw[Zzj oa]at hq
   obtain⟨q,h3,rfl⟩:=List.mem_map.mp hq
   exact .inr ⟨q,Nat.add_comm _ _,.step h2 h3⟩
theorem Zcf{i:Nat}(oa:Oo A)(h0:0∈S.starts\/¬Reach A A.rows.length)(hi:i < A.rows.length):(jn A S sk).live i=A.live i:=by
 rw[Bool.eq_iff_iff,Yn,Yn]
 refine⟨λh=>?_,Zbn oa⟩
 rcases Zit oa h0 h with z|⟨j,rfl,_⟩
 .exact z.2
 .exact absurd hi (Nat.not_lt.2 (Nat.le_add_right _ _))
theorem Zll{i:Nat}(oa:Oo A)(h0:0∈S.starts)(hl:Led A S sk):(jn A S sk).live (A.rows.length+i)=S.live i:=by
 rw[Bool.eq_iff_iff,Yn,Yn]
 refine⟨λh=>?_,ZCk oa hl⟩
 rcases Zit oa (.inl h0) h with z|⟨j,e,z⟩
 .exact absurd z.1 (Nat.not_lt.2 (Nat.le_add_right _ _))
 .rw[Nat.add_left_cancel e];exact z
theorem Ztl(oa:Oo A):∀r,some r∈(A.rows.zipIdx.map λx=>if A.live x.2 then some x.1 else none)->r.op.isJ=true->r.t<=(A.rows.zipIdx.map λx=>if A.live x.2 then some x.1 else none).length:=λr hr hj=>by
 rw[List.length_map,List.length_zipIdx]
 obtain⟨x,hx,e⟩:=List.mem_map.mp hr
 split at e
 .cases e
  have:=List.mem_zipIdx hx
  exact(oa.jmp _ (this.2.2▸List.getElem_mem _) hj).2
 .cases e
theorem Yp(oa:Oo A)(h0:0∈S.starts)(hl:Led A S sk):(jn A S sk).undead=jn A.undead S.undead sk:=by
 unfold Cd.undead
 rw[Zoi (f:=λx=>if(jn A S sk).live x.2 then some x.1 else none) (g:=λx=>if A.live x.2 then some x.1 else none) (h:=λx=>if S.live x.2 then some x.1 else none) (λi r hr=>?_) λi r _=>?_]
 .exact Ju oa (by rw[List.length_map,List.length_zipIdx]) (Ztl oa)
 .dsimp only
  rw[Zcf oa (.inl h0) (List.getElem?_eq_some_iff.mp hr).1]
 .dsimp only
  rw[Zll oa h0 hl]
  split <;> rfl
theorem ZAk:jn A ⟨[],[],[0]⟩ 1=A:=Cd.ext (List.append_nil _) (List.append_nil _) (List.append_nil _)
theorem Ul(oa:Oo A)(hs:S.starts=[0])(hn:¬Reach A A.rows.length):(jn A S 1).undead=A.undead:=by
 have hlv:∀i,(jn A S 1).live (A.rows.length+i)=false:=λi=>by
  rw[Bool.eq_false_iff]
  intro e
  have e:=Yn.mp e
  have key:∀{x},Reach (jn A S 1) x->x < A.rows.length/\Reach A x:=λ{x} h=>by
   have fin:∀{x},x<=A.rows.length->Reach A x->x < A.rows.length/\Reach A x:=λ{x} h1 h2=>⟨Nat.lt_of_le_of_ne h1 λe=>hn (e▸h2),h2⟩
   induction h with
   |start hs'=>
    rcases List.mem_append.mp hs' with z|z
    .exact fin (oa.sta _ z) (.start z)
    .rw[hs]at z;cases z
   |step _ hq ih=>
    rw[Zkm ih.1]at hq
    exact fin (Zeo oa hq).1 (.step ih.2 hq)
  exact absurd (key e).1 (Nat.not_lt.2 (Nat.le_add_right _ _))
 have e:(jn A S 1).undead=jn A.undead (S.pressed (S.rows.zipIdx.map λ_=>none)) 1:=by
  unfold Cd.undead
  rw[Zoi (f:=λx=>if(jn A S 1).live x.2 then some x.1 else none) (g:=λx=>if A.live x.2 then some x.1 else none) (h:=λ_=>none) (λi r hr=>?_) λi r _=>?_]
  .exact Ju oa (by rw[List.length_map,List.length_zipIdx]) (Ztl oa)
  .dsimp only
   rw[Zcf oa (.inr hn) (List.getElem?_eq_some_iff.mp hr).1]
  .dsimp only
   rw[hlv];rfl
 have hz:S.pressed (S.rows.zipIdx.map λ_=>none)=⟨[],[],[0]⟩:=by
  have hk:∀(l:List (Rw×Nat)),(l.map λ_=>(none:Option Rw)).filterMap id=[]:=λl=>by
   induction l with
   |nil=>rfl
   |cons a l ih=>rw[List.map_cons,List.filterMap_cons];exact ih
  have hp:∀i,plc (S.rows.zipIdx.map λ_=>none) i=0:=λi=>by
   unfold plc
   rw[<- List.map_take,hk];rfl
  refine Cd.ext ?_ ?_ ?_
  .show((S.rows.zipIdx.map λ_=>none).filterMap id).map _=[]
   rw[hk];rfl
  .show S.catches.filterMap _=[]
   rw[List.filterMap_eq_nil_iff]
   intro k _
   unfold Ct.re
   rw[hp,hp,if_neg (Nat.lt_irrefl _)]
  .show S.starts.map _=[0]
   rw[hs,List.map_singleton,hp]
 rw[e,hz,ZAk]
end
section
variable{A S F J:Cd}{sk p q:Nat}{r:Rw}{ℓ:Int}
theorem Zny{c:Cd}(hr:c.rows[p]?=some r)(hj:(r.op==.jump)=false)(j:Nat):c.eoj (j+1) p=some p:=by rw[Cd.eoj,hr];exact if_neg (by rw[hj];exact Bool.false_ne_true)
theorem Zuu{c:Cd}(hr:c.rows[p]?=some r)(hj:(r.op==.jump)=true)(j:Nat):c.eoj (j+1) p=c.eoj j r.t:=by rw[Cd.eoj,hr];exact if_pos hj
theorem ZYs{c:Cd}{q j k:Nat}:∀{i p:Nat},c.eoj k p=some q->k+i=j->c.eoj j p=some q:=by
 induction k generalizing j with
 |zero=>exactλh=>ns h
 |succ k ih=>
  intro i p h e
  subst e
  rw[Nat.add_right_comm]
  cases hr:c.rows[p]? with
  |none=>rw[Cd.eoj,hr]at h;exact ns h
  |some r=>
   cases hj:r.op==.jump
   .exact(Zny hr hj _).trans ((Zny hr hj k).symm.trans h)
   .exact(Zuu hr hj _).trans (ih ((Zuu hr hj k).symm.trans h) rfl)
theorem Ztg{c:Cd}{q j k:Nat}(h:c.eoj k p=some q)(hk:k<=j):c.eoj j p=some q:=(Nat.exists_eq_add_of_le hk).elim λi e=>ZYs h e.symm
noncomputable def zr(ℓ:Int):Cd:=⟨[⟨.fail,.str (PySem.Str.ofString "Seam"),.str (PySem.Str.ofString "t"),ℓ⟩],[],[0]⟩
noncomputable abbrev fzc(A:Cd)(ℓ:Int):Cd:=jn A (zr ℓ) 1
theorem ZHy:(zr ℓ).rows[0]?=some ⟨.fail,.str (PySem.Str.ofString "Seam"),.str (PySem.Str.ofString "t"),ℓ⟩:=rfl
theorem Zlv:(fzc A ℓ).rows[A.rows.length]?=some ⟨.fail,.str (PySem.Str.ofString "Seam"),.str (PySem.Str.ofString "t"),ℓ⟩:=by
 have:=Zaf (A:=A) (S:=zr ℓ) (sk:=1) (i:=0)
 rw[Nat.add_zero]at this
 rw[this,ZHy];rfl
theorem Yb:(fzc A ℓ).rows.length=A.rows.length+1:=Qc
theorem Zfu{k:Nat}:(fzc A ℓ).eoj (k+1) A.rows.length=some A.rows.length:=Zny Zlv rfl k
theorem Zyo(oa:Oo A){k:Nat}:∀{p q:Nat},p<=A.rows.length->(fzc A ℓ).eoj k p=some q->(q < A.rows.length/\(jn A S sk).eoj k p=some q)\/(q=A.rows.length/\∃k',k' < k/\∀j,(jn A S sk).eoj (k'+j) p=(jn A S sk).eoj j A.rows.length):=by
 induction k with
 |zero=>exactλ_ h=>by cases h
 |succ k ih=>
  intro p q hp h
  by_cases e:p=A.rows.length
  .subst e
   rw[Zfu]at h
   cases h
   exact .inr ⟨rfl,0,Nat.succ_pos _,λj=>by rw[Nat.zero_add]⟩
  .have hp':=Nat.lt_of_le_of_ne hp e
   have hr:=List.getElem?_eq_getElem hp'
   have h1:(fzc A ℓ).rows[p]?=some A.rows[p]:=(Yl hp').trans hr
   have h2:(jn A S sk).rows[p]?=some A.rows[p]:=(Yl hp').trans hr
   cases hj:A.rows[p].op==.jump with
   |false=>
    rw[Zny h1 hj]at h
    cases h
    exact .inl ⟨hp',Zny h2 hj k⟩
   |true=>
    have hJ:A.rows[p].op.isJ=true:=by rw[eq_of_beq hj];rfl
    rw[Zuu h1 hj]at h
    exact(ih (oa.jmp _ (List.getElem_mem hp') hJ).2 h).imp (λz=>⟨z.1,(Zuu h2 hj k).trans z.2⟩) λz=>⟨z.1,z.2.elim λk' z=>⟨k'+1,Nat.succ_lt_succ z.1,λj=>by rw[Nat.add_right_comm,Zuu h2 hj];exact z.2 j⟩⟩
theorem Zyn(oa:Oo A){K:Nat}:∀{p:Nat},p<=A.rows.length->(∀K,(fzc A ℓ).eoj K p=none)->(jn A S sk).eoj K p=none:=by
 induction K with
 |zero=>exactλ_ _=>rfl
 |succ K ih=>
  intro p hp h
  have hp':=Nat.lt_of_le_of_ne hp λe=>ns (b:=A.rows.length) ((h 1).symm.trans (by rw[e];exact Zfu))
  have hr:=List.getElem?_eq_getElem hp'
  have h1:(fzc A ℓ).rows[p]?=some A.rows[p]:=(Yl hp').trans hr
  cases hj:A.rows[p].op==.jump with
  |false=>exact ns ((h 1).symm.trans (Zny h1 hj 0))
  |true=>exact(Zuu ((Yl hp').trans hr) hj K).trans (ih (oa.jmp _ (List.getElem_mem hp') (by rw[eq_of_beq hj];rfl)).2 λK=>(Zuu h1 hj K).symm.trans (h (K+1)))
theorem Ztr{k:Nat}:∀{i:Nat},(jn A S sk).eoj k (A.rows.length+i)=(S.eoj k i).map (A.rows.length+·):=by
 induction k with
 |zero=>exact rfl
 |succ k ih=>
  intro i
  rw[Cd.eoj,Cd.eoj,Zaf]
  cases S.rows[i]? with
  |none=>rfl
  |some r=>
   dsimp only[Option.map_some]
   rw[Xa]
   by_cases hj:(r.op==.jump)=true
   .rw[if_pos hj,if_pos hj,Zoh (show r.op.isJ=true by rw[eq_of_beq hj];rfl),Nat.add_comm r.t,ih]
   .rw[if_neg hj,if_neg hj];rfl
theorem Zld(hp:p < A.rows.length):(jn A S sk).opAt p=A.opAt p:=by unfold Cd.opAt;rw[Yl hp]
theorem Zqo:(jn A S sk).opAt (A.rows.length+p)=S.opAt p:=by
 unfold Cd.opAt
 rw[Zaf,Option.map_map]
 congr 1
 funext r
 exact Xa
noncomputable def Zzy(S:Cd)(m t:Nat):Nat:=match S.eoj S.rows.length 0 with
 |some e=>m+e
 |none=>t
set_option tactic.hygienic true in
theorem ZMq(oa:Oo A)(okF:Ok (fzc A ℓ))(okS:Ok S)(hp:p<=A.rows.length):(jn A S sk).fin p=if(fzc A ℓ).fin p=A.rows.length then Zzy S A.rows.length p else(fzc A ℓ).fin p:=by
 have hn:=okS.pos
 have l1:(jn A S sk).rows.length=A.rows.length+S.rows.length:=Qc
 have l2:(fzc A ℓ).rows.length=A.rows.length+1:=Yb
 unfold Cd.fin
 rcases ZAw okF (p0:=p) (Nat.lt_of_lt_of_eq (Nat.lt_succ_of_le hp) l2.symm)with⟨q,h⟩|h
 .rcases Zyo (S:=S) (sk:=sk) oa hp h with⟨a,b⟩|⟨a,k',b,c⟩
  .rw[h,Ztg (j:=(jn A S sk).rows.length) b (by rw[l1,l2];exact Nat.add_le_add_left hn _)]
   show q=if q=A.rows.length then _ else q
   rw[if_neg (Nat.ne_of_lt a)]
  .rw[h,if_pos (by rw[a];rfl)]
   have e:=c ((jn A S sk).rows.length - k')
   have b:k'<=A.rows.length:=Nat.le_of_lt_succ (Nat.lt_of_lt_of_eq b l2)
   rw[Nat.add_sub_of_le (l1▸Nat.le_trans b (Nat.le_add_right _ _))]at e
   have e2:=Ztr (A:=A) (S:=S) (sk:=sk) (k:=(jn A S sk).rows.length - k') (i:=0)
   rw[Nat.add_zero]at e2
   rw[e,e2,Zjr okS hn (Nat.le_sub_of_add_le (by rw[l1,Nat.add_comm];exact Nat.add_le_add_right b _))]
   unfold Zzy
   cases S.eoj S.rows.length 0 <;> rfl
 .rw[h,Zyn oa hp h]
  exact(if_neg (show¬p=A.rows.length fromλe=>by
   have z:=h 1
   rw[e,Zfu]at z;cases z)).symm
theorem ZSd(okS:Ok S){i:Nat}(hi:i < S.rows.length):(jn A S sk).fin (A.rows.length+i)=A.rows.length+S.fin i:=by
 unfold Cd.fin
 rw[Ztr,Zjr okS hi (by rw[Qc];exact Nat.le_add_left _ _)]
 cases S.eoj S.rows.length i <;> rfl
theorem ZIn(okS:Ok S)(hr:r∈S.rows):(jn A S sk).thr (r.mv A.rows.length)=(S.thr r).mv A.rows.length:=by
 unfold Cd.thr
 rw[Xa,Zfh]
 cases hj:r.op.isJ with
 |false=>rfl
 |true=>
  rw[if_pos rfl,if_pos rfl,Zoh hj,Nat.add_comm r.t,ZSd okS (okS.jmp r hr hj).2,Zqo]
  split
  .rfl
  .rw[ZBs hj,Nat.add_comm]
noncomputable def NL(S:Cd):Prop:=∀e,S.eoj S.rows.length 0=some e->S.opAt e≠some .leave
noncomputable def thJ(A S:Cd)(ℓ:Int)(r:Rw):Rw:=if r.op.isJ then(if(fzc A ℓ).fin r.t=A.rows.length then r.to (Zzy S A.rows.length r.t)else(fzc A ℓ).thr r)else r
theorem ZPl(oa:Oo A)(okF:Ok (fzc A ℓ))(okS:Ok S)(nl:NL S)(hr:r∈A.rows):(jn A S sk).thr r=thJ A S ℓ r:=by
 unfold thJ
 cases hj:r.op.isJ with
 |false=>unfold Cd.thr;rw[hj];rfl
 |true=>
  have ht:=(oa.jmp r hr hj).2
  have hf:=ZMq (S:=S) (sk:=sk) oa okF okS ht
  rw[if_pos rfl]
  by_cases e:(fzc A ℓ).fin r.t=A.rows.length
  .rw[if_pos e]at hf⊢
   unfold Cd.thr
   rw[hj,if_pos rfl,hf,if_neg]
   rw[Bool.and_eq_true]
   rintro ⟨_,h2⟩
   have h2:(jn A S sk).opAt (Zzy S A.rows.length r.t)=some .leave:=eq_of_beq h2
   unfold Zzy at h2
   cases hs:S.eoj S.rows.length 0 with
   |some e'=>
    rw[hs]at h2
    dsimp only at h2
    rw[Zqo]at h2
    exact nl e' hs h2
   |none=>
    rw[hs]at h2
    dsimp only at h2
    have hn:=okS.pos
    by_cases hm:r.t=A.rows.length
    .have:=Zqo (A:=A) (S:=S) (sk:=sk) (p:=0)
     rw[Nat.add_zero,<- hm,h2]at this
     unfold Cd.opAt at this
     rw[List.getElem?_eq_getElem hn]at this
     have h3:S.rows[0].op=.leave:=(Option.some.inj this).symm
     have h4:=Zny (List.getElem?_eq_getElem hn) (show(S.rows[0].op==.jump)=false by rw[h3];rfl) 0
     rw[Ztg (j:=S.rows.length) h4 hn]at hs
     cases hs
    .have hlt:=Nat.lt_of_le_of_ne ht hm
     rw[Zld hlt]at h2
     unfold Cd.opAt at h2
     rw[List.getElem?_eq_getElem hlt]at h2
     have h3:(A.rows[r.t]).op=.leave:=Option.some.inj h2
     have h4:=Zny (c:=fzc A ℓ) (p:=r.t) (by rw[Yl hlt];exact List.getElem?_eq_getElem hlt) (show(A.rows[r.t].op==.jump)=false by rw[h3];rfl) 0
     have h5:=Ztg (j:=(fzc A ℓ).rows.length) h4 (by rw[Yb];exact Nat.le_add_left _ _)
     unfold Cd.fin at e
     rw[h5]at e
     exact hm e
  .rw[if_neg e]at hf⊢
   unfold Cd.thr
   rw[hj,if_pos rfl,if_pos rfl,hf]
   have hlt:(fzc A ℓ).fin r.t < A.rows.length:=by
    have z:=Zhs okF (p:=r.t) (by rw[Yb];exact Nat.lt_succ_of_le ht)
    rw[Yb]at z;exact Nat.lt_of_le_of_ne (Nat.le_of_lt_succ z) e
   rw[Zld hlt,Zld hlt]
theorem Zkk(oa:Oo A)(okF:Ok (fzc A ℓ))(okS:Ok S)(okJ:Ok (jn A S sk))(nl:NL S):(jn A S sk).threaded=jn ⟨A.rows.map (thJ A S ℓ),A.catches,A.starts⟩ S.threaded sk:=by
 rw[Zad okJ,Zad okS]
 unfold jn
 dsimp only
 refine Cd.ext ?_ ?_ ?_
 .show(A.rows++S.rows.map _).map _=_++_
  rw[List.map_append,List.map_map,List.map_map,List.length_map]
  congr 1
  .exact List.map_congr_left λr hr=>ZPl oa okF okS nl hr
  .exact List.map_congr_left λr hr=>ZIn okS hr
 .show _=_
  rw[List.length_map]
 .show _=_
  rw[List.length_map]
theorem Zwi(h:Inert S):NL S:=λe he hl=>by
 obtain⟨r,h1,h2⟩:=h
 have hn:0 < S.rows.length:=(List.getElem?_eq_some_iff.mp h1).1
 have h4:=Zny h1 (show(r.op==.jump)=false by rcases h2 with h|h|h <;> rw[h] <;> rfl) 0
 rw[Ztg (j:=S.rows.length) h4 hn]at he
 cases he
 unfold Cd.opAt at hl
 rw[h1]at hl
 have this:r.op=.leave:=Option.some.inj hl
 rcases h2 with h|h|h <;> rw[h]at this <;> cases this
theorem Us(h:Inert S){m t:Nat}:Zzy S m t=m:=by
 obtain⟨r,h1,h2⟩:=h
 have hn:0 < S.rows.length:=(List.getElem?_eq_some_iff.mp h1).1
 have h4:=Zny h1 (show(r.op==.jump)=false by rcases h2 with h|h|h <;> rw[h] <;> rfl) 0
 unfold Zzy
 rw[Ztg (j:=S.rows.length) h4 hn];rfl
theorem Yc:Inert (zr ℓ):=⟨_,rfl,.inr (.inr rfl)⟩
noncomputable def thA(A:Cd)(ℓ:Int):Cd:=⟨A.rows.map (thJ A (zr ℓ) ℓ),A.catches,A.starts⟩
theorem Zot(h:Inert S):thJ A S ℓ=thJ A (zr ℓ) ℓ:=by
 funext r
 unfold thJ
 rw[Us h,Us Yc]
theorem Yo(oa:Oo A)(okF:Ok (fzc A ℓ))(okS:Ok S)(okJ:Ok (jn A S sk))(h:Inert S):(jn A S sk).threaded=jn (thA A ℓ) S.threaded sk:=by
 rw[Zkk oa okF okS okJ (Zwi h),Zot h];rfl
theorem ZBv(hr:r.op.isJ=false):thJ A S ℓ r=r:=by unfold thJ;rw[hr];rfl
theorem Zgk(okS:Ok S)(okJ:Ok (jn A S sk))(h:NoJ A):(jn A S sk).threaded=jn A S.threaded sk:=by
 rw[Zad okJ,Zad okS]
 refine Cd.ext ?_ rfl rfl
 show(A.rows++S.rows.map _).map _=_++_
 rw[List.map_append,List.map_map,List.map_map]
 congr 1
 .conv=>rhs;rw[<- List.map_id A.rows]
  refine List.map_congr_left λr hr=>?_
  unfold Cd.thr
  rw[h r hr];rfl
 .exact List.map_congr_left λr hr=>ZIn okS hr
end
section
variable{A S F J c:Cd}{R:Rows}{sk p q:Nat}{r:Rw}{ℓ:Int}{Q:MV->Prop}{mk:Nat->Bool}{o:Option Rw}
noncomputable def AQ(Q:MV->Prop)(c:Cd):Prop:=∀r∈c.rows,r.op.isJ=false->Q r.a
noncomputable def NQ(Q:MV->Prop)(R:Rows):Prop:=∀r,some r∈R->r.op.isJ=false->Q r.a
theorem Yj(h:NQ Q R):AQ Q (c.pressed R):=λr hr hj=>by
 obtain⟨r0,h0,rfl⟩:=List.mem_map.mp hr
 obtain⟨o,ho,e⟩:=List.mem_filterMap.mp h0
 rw[Zgv]at hj
 unfold Rw.re
 rw[if_neg (by rw[hj];nofun)]
 exact h r0 (by rw[<- show o=some r0 from e];exact ho) hj
theorem NQ.set(h:NQ Q R)(ho:∀r,o=some r->r.op.isJ=true):NQ Q (R.set p o):=λr hr hj=>by
 rcases Jt hr with z|z
 .rw[ho r z.symm]at hj;cases hj
 .exact h r z hj
theorem NQ.non(h:NQ Q R):NQ Q (R.set p none):=h.set λr e=>by cases e
theorem NQ.push(h:NQ Q R):NQ Q (Je mk p R):=by
 unfold Je;split
 .exact h.non.non
 .exact h
theorem NQ.copy(h:NQ Q R):NQ Q (Yr mk p R):=by
 unfold Yr;split
 .exact h.non.non
 .exact h
theorem NQ.swap(h:NQ Q R):NQ Q (Jd mk p R):=by
 unfold Jd;split
 .exact h
 .split
  .exact h.non.non
  .split
   .exact h.non
   .exact h
theorem NQ.turn(h:NQ Q R):NQ Q (Xg mk p R):=by
 unfold Xg;split
 .split
  .exact(h.set λq e=>by cases e;dsimp only;split <;> rfl).non
  .exact h
 .exact h
set_option tactic.hygienic true in
theorem NQ.known(h:NQ Q R):NQ Q (Ya c mk p R):=by
 unfold Ya;split
 .split
  .exact h
  .unfold gK;split
   .refine h.non.set λq e=>?_
    split at e
    .cases e;rfl
    .cases e
   .split
    .rename_i hj
     split
     .split
      .exact h.non.set λq e=>by cases e;exact congrArg Op.isJ (eq_of_beq hj)
      .exact h
     .exact h
    .exact h
 .exact h
theorem Zdw{g:Nat->Rows->Rows}(hg:∀p R,NQ Q R->NQ Q (g p R))(h:NQ Q R):∀k,NQ Q (win g k R)
 |0=>h
 |k+1=>hg k _ (Zdw hg h k)
theorem AQ.all(h:AQ Q c):NQ Q c.all:=λr hr=>h r (Zab hr)
set_option tactic.hygienic true in
theorem AQ.threaded(h0:Q .none)(h:AQ Q c):AQ Q c.threaded:=Yj λr hr hj=>by
 obtain⟨q,hq,e⟩:=List.mem_map.mp hr
 cases e
 unfold Cd.thr at hj⊢
 split
 .rename_i hqj
  rw[if_pos hqj]at hj
  split
  .exact h0
  .rename_i hc
   rw[if_neg hc]at hj
   have hj:q.op.isJ=false:=hj
   rw[hqj]at hj;cases hj
 .rename_i hqj
  exact h q hq (Bool.eq_false_iff.2 hqj)
theorem AQ.short(h0:Q .none)(h:AQ Q c):AQ Q c.short:=Yj λr hr hj=>by
 obtain⟨x,hx,e⟩:=List.mem_map.mp hr
 have hm:x.1∈c.rows:=by
  have:=List.mem_zipIdx hx
  exact this.2.2▸List.getElem_mem _
 unfold Zg at e
 split at e
 .split at e
  .cases e;exact h0
  .cases e
 .cases e;exact h _ hm hj
theorem AQ.undead(h:AQ Q c):AQ Q c.undead:=Yj λr hr hj=>by
 obtain⟨x,hx,e⟩:=List.mem_map.mp hr
 have hm:x.1∈c.rows:=by
  have:=List.mem_zipIdx hx
  exact this.2.2▸List.getElem_mem _
 split at e
 .cases e;exact h _ hm hj
 .cases e
theorem AQ.pushes(h:AQ Q c):AQ Q c.pushes:=Yj (Zdw (λp R=>NQ.push) h.all _)
theorem AQ.copies(h:AQ Q c):AQ Q c.copies:=Yj (Zdw (λp R=>NQ.copy) h.all _)
theorem AQ.swaps(h:AQ Q c):AQ Q c.swaps:=Yj (Zdw (λp R=>NQ.swap) h.all _)
theorem AQ.turned(h:AQ Q c):AQ Q c.turned:=Yj (Zdw (λp R=>NQ.turn) h.all _)
theorem AQ.known(h:AQ Q c):AQ Q c.known:=Yj (Zdw (λp R=>NQ.known) h.all _)
theorem AQ.round(h0:Q .none)(h:AQ Q c):AQ Q c.round:=(((((AQ.threaded h0 h).known.turned.short h0).undead).pushes).copies).swaps
theorem AQ.rounds(h0:Q .none)(h:AQ Q c)(k:Nat):AQ Q (Cd.rounds k c):=by
 induction k generalizing c with
 |zero=>exact h
 |succ k ih=>exact ih (h.round h0)
theorem AQ.pass{x:String×Nat×(Cd->Cd)}(hx:x∈Xm)(h0:Q .none)(h:AQ Q c):AQ Q (x.2.2 c):=
 fm (P:=λx:Pass=>AQ Q (x.2.2 c)) (h.threaded h0) (fm h.known (fm h.turned (fm (h.short h0) (fm h.undead (fm h.pushes (fm h.copies (fm h.swaps fmN))))))) x hx
theorem Zms(ok:Ok c)(h:AQ Rp c):Tl c:=⟨λr hr=>by
 cases hj:r.op.isJ with
 |false=>exact h r hr hj
 |true=>rw[(ok.jmp r hr hj).1];exact ZOv (Nat.lt_of_lt_of_le (ok.jmp r hr hj).2 (Nat.le_trans ok.len (by decide))),λr hr=>(ok.pln r hr).2⟩
theorem ZSz(h1:AQ Q A)(h2:AQ Q S):AQ Q (jn A S sk):=λr hr hj=>by
 rcases List.mem_append.mp hr with z|z
 .exact h1 r z hj
 .obtain⟨q,hq,rfl⟩:=List.mem_map.mp z
  rw[Xa]at hj
  rw[Zhf hj]
  exact h2 q hq hj
theorem Zm:Oo (A.pressed R):=by
 have hk:(A.pressed R).rows.length=kept R:=Yg
 refine⟨λr hr hj=>?_,λk hk'=>?_,λs hs=>?_⟩
 .obtain⟨r0,h0,rfl⟩:=List.mem_map.mp hr
  rw[Zgv]at hj
  unfold Rw.re
  rw[if_pos hj,hk]
  exact⟨rfl,Zbu⟩
 .obtain⟨k0,h0,e⟩:=List.mem_filterMap.mp hk'
  unfold Ct.re at e
  split at e
  .cases e
   rw[hk]
   exact⟨Zbu,Zbu,Zbu⟩
  .cases e
 .obtain⟨s0,h0,rfl⟩:=List.mem_map.mp hs
  rw[hk];exact Zbu
noncomputable def nsm(v:MV):Prop:=Xn v=false
theorem ZBc(oa:Oo A)(h:AQ nsm A):A.rows.filter (λr=>!Xn r.a)=A.rows:=by
 rw[List.filter_eq_self]
 intro r hr
 cases hj:r.op.isJ with
 |false=>rw[show Xn r.a=false from h r hr hj];rfl
 |true=>rw[(oa.jmp r hr hj).1];rfl
theorem Zfz(oa:Oo A)(h:AQ nsm A):bdy A=A:=Cd.ext (ZBc oa h) rfl rfl
theorem Zig(oa:Oo A)(h:AQ nsm A):bdy (fzc A ℓ)=A:=by
 refine Cd.ext ?_ ?_ ?_
 .show(A.rows++_).filter _=_
  rw[List.filter_append,ZBc oa h]
  conv=>rhs;rw[<- List.append_nil A.rows]
  congr 1
 .show A.catches++[]=_
  rw[List.append_nil]
 .show A.starts++[]=_
  rw[List.append_nil]
theorem ZCh(oa:Oo A):(fzc A ℓ).rows.filter (λr=>Xn r.a)≠[]:=λe=>by
 have:=List.filter_eq_nil_iff.mp e ((⟨.fail,.str (Str.ofString "Seam"),.str (Str.ofString "t"),ℓ⟩:Rw).mv A.rows.length) (List.mem_append_right _ (.head _))
 exact this (by rw[Zhf rfl];exact beq_self_eq_true _)
theorem ZKq(oa:Oo A)(h:AQ nsm A):A.rows.filter (λr=>Xn r.a)=[]:=by
 rw[List.filter_eq_nil_iff]
 intro r hr
 cases hj:r.op.isJ with
 |false=>rw[show Xn r.a=false from h r hr hj];nofun
 |true=>rw[(oa.jmp r hr hj).1];nofun
theorem ZHi:(zr ℓ).pressed (zr ℓ).all=zr ℓ:=rfl
theorem Zgg:(zr ℓ).pushes=zr ℓ:=rfl
theorem Zgh:(zr ℓ).copies=zr ℓ:=rfl
theorem Zkd:(zr ℓ).swaps=zr ℓ:=rfl
theorem Zgf:(zr ℓ).turned=zr ℓ:=rfl
theorem Zkf:(zr ℓ).known=zr ℓ:=rfl
theorem Zke:(zr ℓ).short=zr ℓ:=rfl
theorem Qg:(zr ℓ).threaded=zr ℓ:=rfl
theorem Zge:(zr ℓ).undead=zr ℓ:=by
 have h:(zr ℓ).live 0=true:=Yn.mpr (.start (.head _))
 unfold Cd.undead
 rw[show((zr ℓ).rows.zipIdx.map λx=>if(zr ℓ).live x.2 then some x.1 else none)=(zr ℓ).all by
  show[if(zr ℓ).live 0 then some _ else none]=[some _]
  rw[h];rfl]
 rfl
theorem Zda:HS (zr ℓ) 1:=.inr ⟨rfl,[],rfl⟩
end
section
variable{B S:Cd}{sk:Nat}{ℓ:Int}
structure Bs(B S:Cd)(ℓ:Int)(sk:Nat):Prop where
 okF:Ok (fzc B ℓ)
 okS:Ok S
 okJ:Ok (jn B S sk)
 oa:Oo B
 nsm:AQ nsm B
 pos:0 < B.rows.length
 hs:HS S sk
 z:0∈S.starts
 led:Led B S sk
theorem Bs.hj(h:Bs B S ℓ sk):∀r∈S.rows,r.op.isJ=true->r.a=nat r.t:=λr hr hj=>(h.okS.jmp r hr hj).1
theorem Zuw:∀r∈(zr ℓ).rows,r.op.isJ=true->r.a=nat r.t:=λr hr hj=>by
 rw[List.mem_singleton.mp hr]at hj;cases hj
theorem ZHz:∀r,(zr ℓ).rows[0]?=some r->Xe.contains r.op=false:=λr hr=>by cases hr;rfl
theorem ZBh:Ok (zr ℓ):=by
 refine⟨show 1<=60 by decide,λr hr hj=>?_,λr hr=>?_,λp r hp he=>?_,λk hk=>(by cases hk),show 0<=10 by decide,λs hs=>?_,show 1<=10 by decide,nofun⟩
 .rw[List.mem_singleton.mp hr]at hj;cases hj
 .rw[List.mem_singleton.mp hr];exact⟨sok _,sok _⟩
 .obtain rfl:p=0:=Nat.lt_one_iff.1 (List.getElem?_eq_some_iff.mp hp).1
  cases hp;cases he
 .rw[List.mem_singleton.mp hs];exact Nat.zero_lt_one
theorem Zno(h:Bs B S ℓ sk):(fzc B ℓ).pushes=fzc B.pushes ℓ:=by rw[fzc,Qy h.oa Zda (.inl Yc),Zgg]
theorem Znp(h:Bs B S ℓ sk):(fzc B ℓ).copies=fzc B.copies ℓ:=by rw[fzc,Uh h.oa Zda (.inl Yc),Zgh]
theorem Zsm(h:Bs B S ℓ sk):(fzc B ℓ).swaps=fzc B.swaps ℓ:=by rw[fzc,Zar h.oa Zda (.inl Yc),Zkd]
theorem Znn(h:Bs B S ℓ sk):(fzc B ℓ).turned=fzc B.turned ℓ:=by rw[fzc,Qp h.oa Zuw Zda,Zgf]
theorem Zso(h:Bs B S ℓ sk):(fzc B ℓ).known=fzc B.known ℓ:=by rw[fzc,Zaw h.oa Zuw Zda (.inl Yc) (.inl ZHz),Zkf]
theorem Zsn(h:Bs B S ℓ sk):(fzc B ℓ).short=fzc B.short ℓ:=by rw[fzc,Zat h.oa,Zke]
theorem Znm(h:Bs B S ℓ sk)(hr:Reach B B.rows.length):(fzc B ℓ).undead=fzc B.undead ℓ:=by rw[fzc,Yp h.oa (.head _) (.inr ⟨rfl,⟨[],rfl⟩,hr⟩),Zge]
theorem Zxf(h:Bs B S ℓ sk)(hr:¬Reach B B.rows.length):(fzc B ℓ).undead=B.undead:=Ul h.oa rfl hr
theorem Xk(h:Bs B S ℓ sk):(fzc B ℓ).threaded=fzc (thA B ℓ) ℓ:=by rw[fzc,Yo h.oa h.okF ZBh h.okF Yc,Qg]
theorem Ztj{x:String×Nat×(Cd->Cd)}(h:(x.1=="threaded")=false){F:Cd}:Zmf x F S sk=jn (bdy (x.2.2 F)) (x.2.2 S) sk:=by unfold Zmf;rw[h];rfl
set_option tactic.hygienic true in
theorem Zue{Q:MV->Prop}(h0:Q .none)(h:AQ Q B):AQ Q (thA B ℓ):=λr hr hj=>by
 obtain⟨q,hq,rfl⟩:=List.mem_map.mp hr
 unfold thJ at hj⊢
 split
 .rename_i hqj
  rw[if_pos hqj]at hj
  split
  .rename_i hc
   rw[if_pos hc]at hj
   have hj:q.op.isJ=false:=hj
   rw[hqj]at hj;cases hj
  .rename_i hc
   rw[if_neg hc]at hj
   unfold Cd.thr at hj⊢
   rw[if_pos hqj]at hj⊢
   split
   .exact h0
   .rename_i hc2
    rw[if_neg hc2]at hj
    have hj:q.op.isJ=false:=hj
    rw[hqj]at hj;cases hj
 .rename_i hqj
  exact h q hq (Bool.eq_false_iff.2 hqj)
theorem Xc:(thA B ℓ).rows.length=B.rows.length:=List.length_map ..
theorem Zzx(h:Bs B S ℓ sk):Oo (thA B ℓ):=by
 have ok:=h.okF.threaded
 rw[Xk h]at ok
 refine⟨λr hr hj=>?_,λk hk=>?_,λs hs=>?_⟩
 .obtain⟨a,b⟩:=ok.jmp r (List.mem_append_left _ hr) hj
  rw[Yb]at b
  exact⟨a,Nat.le_of_lt_succ b⟩
 .rw[Xc];exact h.oa.cat k hk
 .rw[Xc];exact h.oa.sta s hs
theorem ZEx{α:Type}{p q:Prop}[Decidable p][Decidable q]{a b:α}(h:p↔q):(if p then a else b)=if q then a else b:=by
 by_cases hp:p
 .exact(if_pos hp).trans (if_pos (h.1 hp)).symm
 .exact(if_neg hp).trans (if_neg λx=>hp (h.2 x)).symm
theorem Zxq{one F:Cd}{m:Nat}{g:Option Nat}{i:Nat}{l:List Rw}{k:Nat}:(Znr one F m g k l)[i]?=if i < k then(match ZAv one F m g i with|some r=>if i < l.length then some r else none|none=>l[i]?)else l[i]?:=by
 induction k with
 |zero=>rw[Znr,if_neg (Nat.not_lt_zero _)]
 |succ k ih=>
  rw[Znr]
  by_cases e:i=k
  .subst e
   rw[if_neg (Nat.lt_irrefl _)]at ih
   rw[if_pos (Nat.lt_succ_self _)]
   cases ZAv one F m g i with
   |none=>exact ih
   |some r=>
    dsimp only
    rw[List.getElem?_set_self',ih]
    by_cases hl:i < l.length
    .rw[List.getElem?_eq_getElem hl,if_pos hl];rfl
    .rw[List.getElem?_eq_none (Nat.le_of_not_lt hl),if_neg hl];rfl
  .have fin:=ih.trans (ZEx ⟨Nat.lt_succ_of_lt,λh=>Nat.lt_of_le_of_ne (Nat.le_of_lt_succ h) e⟩)
   cases ZAv one F m g k with
   |none=>exact fin
   |some r=>exact(List.getElem?_set_ne (Ne.symm e)).trans fin
theorem ZGd(h:Bs B S ℓ sk)(nl:NL S):(jn B S sk).threaded=Zmf ("threaded",464,Cd.threaded) (fzc B ℓ) S sk:=by
 have hb:bdy (fzc B ℓ).threaded=thA B ℓ:=by rw[Xk h];exact Zig (Zzx h) (Zue rfl h.nsm)
 have hm:(fzc B ℓ).rows.length - 1=B.rows.length:=by rw[Yb];rfl
 rw[Zkk h.oa h.okF h.okS h.okJ nl]
 unfold Zmf
 rw[if_pos (show("threaded"=="threaded")=true by decide)]
 dsimp only
 rw[hb,hm,Xk h]
 refine Cd.ext ?_ ?_ ?_
 .show B.rows.map (thJ B S ℓ)++S.threaded.rows.map _=Znr _ _ _ _ _ ((thA B ℓ).rows++S.threaded.rows.map _)
  rw[Xc]
  dsimp only
  rw[List.length_map]
  apply List.ext_getElem?
  intro i
  rw[Zxq]
  by_cases hi:i < B.rows.length
  .have hi1:i < (thA B ℓ).rows.length:=by rw[Xc];exact hi
   have hr:=List.getElem?_eq_getElem hi
   have h1:(fzc (thA B ℓ) ℓ).rows[i]?=some (thJ B (zr ℓ) ℓ B.rows[i]):=by
    rw[Yl hi1]
    show(B.rows.map _)[i]?=_
    rw[List.getElem?_map,hr];rfl
   rw[if_pos hi,List.getElem?_append_left (by rw[List.length_map];exact hi),List.getElem?_map,hr]
   have hl2:i < ((thA B ℓ).rows++S.threaded.rows.map (·.mv B.rows.length)).length:=by rw[List.length_append];exact Nat.lt_add_right _ hi1
   rw[List.getElem?_append_left hi1]
   rw[show(thA B ℓ).rows[i]?=some (thJ B (zr ℓ) ℓ B.rows[i])by show(B.rows.map _)[i]?=_;rw[List.getElem?_map,hr];rfl]
   have hF:((fzc B ℓ).rows[i]?)=some B.rows[i]:=by rw[Yl hi];exact hr
   have hja:=h.oa.jmp _ (List.getElem_mem hi)
   unfold ZAv
   rw[h1]
   dsimp only[Option.map_some]
   have hgn:gA (fzc B ℓ) B.rows.length i (S.eoj S.rows.length 0)=match S.eoj S.rows.length 0 with|some e=>nat (B.rows.length+e)|none=>B.rows[i].a:=by
    unfold gA
    rw[hF]
    cases S.eoj S.rows.length 0 <;> rfl
   rw[hgn]
   generalize B.rows[i]=r at hja
   unfold thJ
   cases hj:r.op.isJ with
   |false=>
    simp only[Bool.false_eq_true,if_false,hj,Bool.false_and]
   |true=>
    rw[if_pos rfl,if_pos rfl]
    by_cases e:(fzc B ℓ).fin r.t=B.rows.length
    .rw[if_pos e,if_pos e,Us Yc,if_pos (by
      show(r.op.isJ&&_)=true
      rw[hj]
      exact beq_self_eq_true _)]
     dsimp only
     rw[if_pos hl2]
     unfold Zzy
     cases S.eoj S.rows.length 0 with
     |some e=>rfl
     |none=>
      show some (r.to r.t)=some ⟨r.op,r.a,r.b,r.line⟩
      rw[(hja hj).1];rfl
    .rw[if_neg e,if_neg e,if_neg]
     unfold Cd.thr
     rw[if_pos hj]
     split
     .nofun
     .rw[Bool.and_eq_true]
      rintro ⟨_,h2⟩
      exact e (eq_of_beq h2)
  .rw[if_neg hi,List.getElem?_append_right (by rw[List.length_map];exact Nat.le_of_not_lt hi),List.getElem?_append_right (by rw[Xc];exact Nat.le_of_not_lt hi),List.length_map,Xc]
 .show B.catches++S.threaded.catches.map _=(thA B ℓ).catches++S.threaded.catches.map _
  rw[Xc]
  dsimp only
  rw[List.length_map];rfl
 .show B.starts++_=(thA B ℓ).starts++_
  rw[Xc]
  dsimp only
  rw[List.length_map];rfl
theorem Zjt{n:String}{k:Nat}{f:Cd->Cd}{A:Cd}(hn:(n=="threaded")=false)(e1:f (jn B S sk)=jn A (f S) sk)(e2:f (fzc B ℓ)=fzc A ℓ)(e3:bdy (fzc A ℓ)=A):f (jn B S sk)=Zmf (n,k,f) (fzc B ℓ) S sk:=
 e1.trans ((congrArg (jn · (f S) sk) ((congrArg bdy e2).trans e3).symm).trans (Ztj (x:=(n,k,f)) hn).symm)
theorem Zya{x:String×Nat×(Cd->Cd)}(hx:x∈Xm)(h:Bs B S ℓ sk)(ta:Zuk B)(nb:∀r,S.rows[0]?=some r->Xe.contains r.op=false)(nl:NL S):x.2.2 (jn B S sk)=Zmf x (fzc B ℓ) S sk:=by
 have key:∀{G:Cd},Oo G->AQ Mine.nsm G->bdy (fzc G ℓ)=G:=Zig
 refine fm (P:=λx:Pass=>x.2.2 (jn B S sk)=Zmf x (fzc B ℓ) S sk) (ZGd h nl)
  (fm (Zjt (by decide) (Zaw h.oa h.hj h.hs (.inr ta) (.inl nb)) (Zso h) (key Zm h.nsm.known))
  (fm (Zjt (by decide) (Qp h.oa h.hj h.hs) (Znn h) (key Zm h.nsm.turned))
  (fm (Zjt (by decide) (Zat h.oa) (Zsn h) (key Zm (h.nsm.short rfl)))
  (fm ?_
  (fm (Zjt (by decide) (Qy h.oa h.hs (.inr ta)) (Zno h) (key Zm h.nsm.pushes))
  (fm (Zjt (by decide) (Uh h.oa h.hs (.inr ta)) (Znp h) (key Zm h.nsm.copies))
  (fm (Zjt (by decide) (Zar h.oa h.hs (.inr ta)) (Zsm h) (key Zm h.nsm.swaps)) fmN))))))) x hx
 by_cases hr:Reach B B.rows.length
 .exact Zjt (by decide) (Yp h.oa h.z h.led) (Znm h hr) (key Zm h.nsm.undead)
 .exact(Yp h.oa h.z h.led).trans ((congrArg (jn · S.undead sk) ((congrArg bdy (Zxf h hr)).trans (Zfz (A:=B.undead) Zm h.nsm.undead)).symm).trans (Ztj (x:=("dead rows",476,Cd.undead)) (by decide)).symm)
end
section
variable{A S c:Cd}{R X Y:Rows}{sk p x:Nat}{a b r:Rw}{ℓ:Int}{mk:Nat->Bool}{l u v:List Rw}
noncomputable def HL:List Rw->Nat->Prop
 | [],x=>x=0
 |r::l,x=>r.op.tk<=x/\∃y,(r.op.isEnd=false->y+r.op.tk=x+r.op.pt)/\HL l y
theorem HL.app(h:∀y,HL u y->HL v y):∀{l:List Rw} {x:Nat},HL (l++u) x->HL (l++v) x
 | [],x,k=>h x k
 |r::l,x,k=>⟨k.1,k.2.imp λy z=>⟨z.1,HL.app h (l:=l) z.2⟩⟩
theorem HL.suf:∀{l:List Rw} {x:Nat},HL (l++u) x->∃y,HL u y
 | [],x,k=>⟨x,k⟩
 |r::l,x,k=>k.2.elim λy z=>HL.suf (l:=l) z.2
theorem HL.one(h:HL (a::l) x)(he:a.op.isEnd=false):a.op.tk<=x/\∃y,y+a.op.tk=x+a.op.pt/\HL l y:=⟨h.1,h.2.imp λy z=>⟨z.1 he,z.2⟩⟩
theorem Zqm{P:Op->Bool}{l:List Op}(h:l.all P=true){o:Op}(ho:l.contains o=true):P o=true:=List.all_eq_true.mp h o (List.contains_iff_mem.mp ho)
theorem ZTu{o:Op}(h:Zqn.contains o=true):o.isEnd=false/\o.pt=o.tk+1:=of_decide_eq_true (Zqm (P:=λo=>decide (o.isEnd=false/\o.pt=o.tk+1)) (by decide) h)
theorem ZTr{o:Op}(h:ZHn.contains o=true):o.isEnd=false/\o.pt=0/\o.tk=1:=of_decide_eq_true (Zqm (P:=λo=>decide (o.isEnd=false/\o.pt=0/\o.tk=1)) (by decide) h)
theorem Zrq{l:List Rw}{n:Nat}{r:Rw}(h:l[n]?=some r):l.take (n+1)=l.take n++[r]:=by
 obtain⟨hl,e⟩:=List.getElem?_eq_some_iff.mp h
 rw[List.take_succ_eq_append_getElem hl,e]
theorem HL.tail(h:∃x,HL A.rows x):Zuk A:=by
 intro r hr
 have hl:=(List.getElem?_eq_some_iff.mp hr).1
 have e1:=Zrq hr
 rw[Nat.sub_add_cancel (Nat.lt_of_le_of_lt (Nat.zero_le _) (Nat.lt_of_lt_of_le hl (Nat.le_refl _))),List.take_length]at e1
 obtain⟨x,h⟩:=h
 rw[e1]at h
 obtain⟨y,hy⟩:=h.suf
 refine⟨?_,λe=>?_,λhs h2 q hq e=>?_⟩
 .cases e:Zqn.contains r.op
  .rfl
  obtain⟨f1,f2⟩:=ZTu e
  obtain⟨_,z,q,hz⟩:=hy.one f1
  rw[show z=0 from hz,f2,Nat.zero_add]at q
  exact absurd q (Nat.ne_of_lt (Nat.lt_of_lt_of_le (Nat.lt_succ_self _) (Nat.le_add_left _ y)))
 .obtain⟨g,z,q,hz⟩:=hy.one (by rw[e];rfl)
  rw[e]at g q
  rw[show z=0 from hz]at q
  exact absurd (Nat.add_right_cancel q) (Nat.ne_of_lt (Nat.lt_of_lt_of_le (by decide) g))
 .have e2:=Zrq hq
  rw[show A.rows.length - 2+1=A.rows.length - 1 from(Nat.sub_add_comm h2).symm]at e2
  rw[e2,List.append_assoc]at h
  obtain⟨w,hw⟩:=h.suf
  obtain⟨g1,z,q1,hz⟩:=HL.one (a:=q) (l:=[r]) hw (by rw[e];rfl)
  obtain⟨f1,f2,f3⟩:=ZTr hs
  obtain⟨_,u,q2,hu⟩:=hz.one f1
  rw[e]at g1 q1
  rw[f2,f3,show u=0 from hu]at q2
  rw[show z=1 from q2.symm]at q1
  exact absurd (Nat.add_right_cancel (m:=2) q1) (Nat.ne_of_lt g1)
structure HR(R:Rows):Prop where
 h:∃x,HL (R.filterMap id) x
 n:∀r,some r∈R->r.op.isJ=false
theorem Zkn(h1:at_ R p=some a)(h2:at_ R (p+1)=some b):∃X Y,R=X++some a::some b::Y/\p=X.length:=by
 obtain⟨l1,e1⟩:=List.getElem?_eq_some_iff.mp (ZHu h1)
 obtain⟨l2,e2⟩:=List.getElem?_eq_some_iff.mp (ZHu h2)
 refine⟨R.take p,R.drop (p+2),?_,by rw[List.length_take,Nat.min_eq_left (Nat.le_of_lt l1)]⟩
 conv=>lhs;rw[<- List.take_append_drop p R]
 rw[List.drop_eq_getElem_cons l1,e1,List.drop_eq_getElem_cons l2,e2]
theorem Zmb:(X++Y).filterMap id=X.filterMap id++Y.filterMap id:=List.filterMap_append
theorem HR.mem(h:HR R){R':Rows}(hx:∃x,HL (R'.filterMap id) x)(hm:∀r,some r∈R'->some r∈R):HR R':=⟨hx,λr hr=>h.n r (hm r hr)⟩
theorem Qh{o:Option Rw}(h:some r∈R.set p none):some r∈R:=(Jt h).elim (λz=>nomatch z) id
theorem HR.init(h:∃x,HL A.rows x)(hn:NoJ A):HR A.all:=⟨by
 rw[show A.all.filterMap id=A.rows by unfold Cd.all;rw[List.filterMap_map];exact List.filterMap_some];exact h,λr hr=>hn r (Zab hr)⟩
theorem sd0{q o:Option Rw}:(X++q::Y).set X.length o=X++o::Y:=by
 rw[List.set_append_right _ _ (Nat.le_refl _),Nat.sub_self];rfl
theorem sd1{q1 q2 o:Option Rw}:(X++q1::q2::Y).set (X.length+1) o=X++q1::o::Y:=by
 rw[List.set_append_right _ _ (Nat.le_add_right _ 1),Nat.add_sub_cancel_left];rfl
theorem sd2{q1 q2 q3 o:Option Rw}:(X++q1::q2::q3::Y).set (X.length+2) o=X++q1::q2::o::Y:=by
 rw[List.set_append_right _ _ (Nat.le_add_right _ _),Nat.add_sub_cancel_left];rfl
theorem ZUm{p q r:Bool}(h:(p&&q&&r)=true):p=true/\q=true:=(Bool.and_eq_true _ _).mp ((Bool.and_eq_true _ _).mp h).1
theorem HR.push(h:HR R):HR (Je mk p R):=by
 unfold Je
 by_cases hc:(Yu Zqn (at_ R p)&&Yu [.pop] (at_ R (p+1))&&!mk (p+1))=true
 .rw[if_pos hc]
  obtain⟨h1,h2⟩:=ZUm hc
  obtain⟨a,e1,ha⟩:=Qd h1
  obtain⟨b,e2,hb⟩:=Qd h2
  obtain⟨X,Y,e,el⟩:=Zkn e1 e2
  subst e;subst el
  refine h.mem ?_ λr hr=>Qh (o:=none) (Qh (o:=none) hr)
  rw[sd0,sd1]
  refine h.h.imp λx hx=>?_
  rw[Zmb]at hx⊢
  refine HL.app (λy hy=>?_) hx
  obtain⟨f1,f2⟩:=ZTu (List.contains_iff_mem.mpr ha)
  obtain⟨_,y1,q1,hy⟩:=HL.one (a:=a) (l:=b::Y.filterMap id) hy f1
  have hbp:b.op=.pop:=List.mem_singleton.mp hb
  obtain⟨_,y2,q2,hy⟩:=hy.one (by rw[hbp];rfl)
  rw[hbp]at q2
  rw[f2,<- Nat.add_assoc,Nat.add_right_comm]at q1
  have e:y2=y:=Nat.succ.inj (q2.trans (Nat.add_right_cancel q1))
  exact e▸hy
 .rw[if_neg hc];exact h
theorem HR.copy(h:HR R):HR (Yr mk p R):=by
 unfold Yr
 by_cases hc:(Yu [.dup] (at_ R p)&&Yu ZHn (at_ R (p+1))&&Yu [.pop] (at_ R (p+2))&&(!mk (p+1)&&!mk (p+2)))=true
 .rw[if_pos hc]
  obtain⟨h1,h3⟩:=ZUm hc
  obtain⟨h1,h2⟩:=(Bool.and_eq_true _ _).mp h1
  obtain⟨a,e1,ha⟩:=Qd h1
  obtain⟨b,e2,hb⟩:=Qd h2
  obtain⟨d,e3,hd⟩:=Qd h3
  obtain⟨X,Y,e,el⟩:=Zkn e1 e2
  have e3:=ZHu e3
  subst e;subst el
  rw[List.getElem?_append_right (Nat.le_add_right _ _),Nat.add_sub_cancel_left]at e3
  cases Y with
  |nil=>cases e3
  |cons q Y=>
  obtain rfl:q=some d:=Option.some.inj e3
  refine h.mem ?_ λr hr=>Qh (o:=none) (Qh (o:=none) hr)
  rw[sd0,sd2]
  refine h.h.imp λx hx=>?_
  rw[Zmb]at hx⊢
  refine HL.app (λy hy=>?_) hx
  have hap:a.op=.dup:=List.mem_singleton.mp ha
  have hdp:d.op=.pop:=List.mem_singleton.mp hd
  obtain⟨f1,f2,f3⟩:=ZTr (List.contains_iff_mem.mpr hb)
  obtain⟨_,y1,q1,hy⟩:=HL.one (a:=a) (l:=b::d::Y.filterMap id) hy (by rw[hap];rfl)
  obtain⟨_,y2,q2,hy⟩:=hy.one f1
  obtain⟨_,y3,q3,hy⟩:=hy.one (by rw[hdp];rfl)
  rw[hap]at q1
  rw[f2,f3]at q2
  rw[hdp]at q3
  have q1:y1=y+1:=Nat.add_right_cancel (m:=1) q1
  have e:y3+1=y:=q3.trans (Nat.succ.inj (q2.trans q1))
  refine⟨?_,y3,λ_=>?_,hy⟩
  .rw[f3,<- e];exact Nat.le_add_left _ _
  .rw[f2,f3];exact e
 .rw[if_neg hc];exact h
theorem HR.swap(h:HR R):HR (Jd mk p R):=by
 unfold Jd
 cases h0:Yu [.swap] (at_ R (p+1))with
 |false=>exact h
 |true=>
 by_cases hm:mk (p+1)=true
 .rw[hm];exact h
 rw[if_neg (by rw[Bool.not_true,Bool.false_or];exact hm)]
 obtain⟨b,e2,hb⟩:=Qd h0
 have hbp:b.op=.swap:=List.mem_singleton.mp hb
 by_cases hc:Yu [.swap] (at_ R p)=true
 .rw[if_pos hc]
  obtain⟨a,e1,ha⟩:=Qd hc
  have hap:a.op=.swap:=List.mem_singleton.mp ha
  obtain⟨X,Y,e,el⟩:=Zkn e1 e2
  subst e;subst el
  refine h.mem ?_ λr hr=>Qh (o:=none) (Qh (o:=none) hr)
  rw[sd0,sd1]
  refine h.h.imp λx hx=>?_
  rw[Zmb]at hx⊢
  refine HL.app (λy hy=>?_) hx
  obtain⟨_,y1,q1,hy⟩:=HL.one (a:=a) (l:=b::Y.filterMap id) hy (by rw[hap];rfl)
  obtain⟨_,y2,q2,hy⟩:=hy.one (by rw[hbp];rfl)
  rw[hap]at q1
  rw[hbp]at q2
  have e:y2=y:=(Nat.add_right_cancel (m:=2) q2).trans (Nat.add_right_cancel (m:=2) q1)
  exact e▸hy
 .rw[if_neg hc]
  by_cases hc:Yu [.dup] (at_ R p)=true
  .rw[if_pos hc]
   obtain⟨a,e1,ha⟩:=Qd hc
   have hap:a.op=.dup:=List.mem_singleton.mp ha
   obtain⟨X,Y,e,el⟩:=Zkn e1 e2
   subst e;subst el
   refine h.mem ?_ λr hr=>Qh (o:=none) hr
   rw[sd1]
   refine h.h.imp λx hx=>?_
   rw[Zmb]at hx⊢
   refine HL.app (λy hy=>?_) hx
   obtain⟨g1,y1,q1,hy⟩:=HL.one (a:=a) (l:=b::Y.filterMap id) hy (by rw[hap];rfl)
   obtain⟨_,y2,q2,hy⟩:=hy.one (by rw[hbp];rfl)
   rw[hbp]at q2
   have e:y2=y1:=Nat.add_right_cancel (m:=2) q2
   exact⟨g1,y1,λ_=>q1,e▸hy⟩
  .rw[if_neg hc];exact h
theorem Zls{g:Nat->Rows->Rows}(hg:∀p R,HR R->HR (g p R))(h:HR R):∀k,HR (win g k R)
 |0=>h
 |k+1=>hg k _ (Zls hg h k)
set_option tactic.hygienic true in
theorem HR.turn(h:HR R):Xg mk p R=R:=by
 unfold Xg
 split
 .rename_i r b e1 e2
  rw[if_neg]
  simp only[Bool.and_eq_true]
  rintro ⟨⟨⟨c,_⟩,_⟩,_⟩
  have:=h.n r (Zih e1)
  rw[ZBa c]at this;cases this
 .rfl
set_option tactic.hygienic true in
theorem HR.known(h:HR R):Ya c mk p R=R:=by
 unfold Ya
 split
 .rename_i r b e1 e2
  have hb:=h.n b (Zih e2)
  split
  .rfl
  .unfold gK
   rw[if_neg (λe=>by rw[ZBa e]at hb;cases hb),if_neg (λe=>by rw[eq_of_beq e]at hb;cases hb)]
 .rfl
theorem Zok{g:Nat->Rows->Rows}(hg:∀p,g p R=R):∀k,win g k R=R
 |0=>rfl
 |k+1=>by rw[win,Zok hg k,hg]
structure HC(c:Cd):Prop where
 h:∃x,HL c.rows x
 n:NoJ c
theorem HR.pressed(h:HR R):HC (c.pressed R):=by
 have e:(c.pressed R).rows=R.filterMap id:=by
  show(R.filterMap id).map _=_
  conv=>rhs;rw[<- List.map_id (R.filterMap id)]
  refine List.map_congr_left λr hr=>?_
  obtain⟨o,ho,e⟩:=List.mem_filterMap.mp hr
  unfold Rw.re
  rw[if_neg (by rw[h.n r (by rw[<- show o=some r from e];exact ho)];nofun)];rfl
 refine⟨by rw[e];exact h.h,λr hr=>?_⟩
 rw[e]at hr
 obtain⟨o,ho,e'⟩:=List.mem_filterMap.mp hr
 exact h.n r (by rw[<- show o=some r from e'];exact ho)
theorem HC.all(h:HC c):HR c.all:=HR.init h.h h.n
theorem HC.pushes(h:HC c):HC c.pushes:=(Zls (λp R=>HR.push) h.all _).pressed
theorem HC.copies(h:HC c):HC c.copies:=(Zls (λp R=>HR.copy) h.all _).pressed
theorem HC.swaps(h:HC c):HC c.swaps:=(Zls (λp R=>HR.swap) h.all _).pressed
theorem HC.turned(h:HC c):HC c.turned:=by
 unfold Cd.turned
 rw[Zok λp=>h.all.turn]
 exact h.all.pressed
theorem HC.known(h:HC c):HC c.known:=by
 unfold Cd.known
 rw[Zok λp=>h.all.known]
 exact h.all.pressed
theorem HC.short(h:HC c):HC c.short:=by
 have:(c.rows.zipIdx.map λx=>Zg x.2 x.1)=c.all:=by
  apply List.ext_getElem?
  intro i
  unfold Cd.all
  rw[List.getElem?_map,List.getElem?_map,List.getElem?_zipIdx]
  cases hr:c.rows[i]? with
  |none=>rfl
  |some r=>
   show some (Zg _ r)=some (some r)
   unfold Zg
   rw[h.n r (List.mem_of_getElem? hr),Bool.false_and,if_neg (by nofun)]
 unfold Cd.short
 rw[this]
 exact h.all.pressed
noncomputable def kpt(f:Nat->Bool)(l:List Rw)(p:Nat):List Rw:=((l.zipIdx p).map λx=>if f x.2 then some x.1 else none).filterMap id
theorem ZEt{f:Nat->Bool}{l:List Rw}:∀{p:Nat},(∀i (r:Rw),l[i]?=some r->f (p+i)=true->r.op.isEnd=false->i+1 < l.length->f (p+i+1)=true)->(∀x,(l≠[]->f p=true)->HL l x->HL (kpt f l p) x)/\((∃y,HL l y)->∃y,HL (kpt f l p) y):=by
 induction l with
 |nil=>exactλ_=>⟨λx _ h=>h,id⟩
 |cons r l ih=>
  intro p hf
  have ih:=ih (p:=p+1) λi q h1 h2 h3 h4=>(congrArg (λn=>f (n+1)) (Nat.add_right_comm p 1 i)).trans (hf (i+1) q h1 ((congrArg f (Nat.add_right_comm p 1 i)).symm.trans h2) h3 (Nat.succ_lt_succ h4))
  unfold kpt at ih⊢
  rw[List.zipIdx_cons,List.map_cons]
  cases hp:f p with
  |false=>exact⟨λx h=>absurd (h (List.cons_ne_nil _ _)) Bool.false_ne_true,λh=>ih.2 (h.elim λy h=>h.2.imp λ_=>And.right)⟩
  |true=>
   have first:∀x,HL (r::l) x->HL (r::((l.zipIdx (p+1)).map λx=>if f x.2 then some x.1 else none).filterMap id) x:=λx h=>by
    refine⟨h.1,?_⟩
    obtain⟨y,q,hy⟩:=h.2
    cases e:r.op.isEnd with
    |true=>exact(ih.2 ⟨y,hy⟩).imp λz=>.intro λz=>(Bool.noConfusion z)
    |false=>exact⟨y,λ_=>q e,ih.1 y (λhl=>hf 0 r rfl hp e (Nat.succ_lt_succ (List.length_pos_iff.mpr hl))) hy⟩
   exact⟨λx _=>first x,.imp first⟩
theorem HC.undead(h:HC c):HC c.undead:=by
 refine HR.pressed ⟨(ZEt (f:=c.live) (l:=c.rows) (p:=0) λi r h1 h2 h3 h4=>?_).2 h.h,λr hr=>?_⟩
 .rw[Nat.zero_add]at h2⊢
  refine Yn.mpr (.step (Yn.mp h2) ?_)
  unfold Cd.succ
  rw[h1]
  dsimp only
  rw[List.mem_append,List.mem_append]
  refine .inl (.inr ?_)
  rw[h3,if_neg (by nofun)]
  exact .head _
 .obtain⟨x,hx,e⟩:=List.mem_map.mp hr
  have:=List.mem_zipIdx hx
  split at e
  .cases e;exact h.n _ (this.2.2▸List.getElem_mem _)
  .cases e
end
section
variable{A S c:Cd}{R:Rows}{sk p:Nat}{r:Rw}{ℓ:Int}{mk:Nat->Bool}{o:Option Rw}
noncomputable def InO(o:Op):Prop:=o=.text\/o=.undef\/o=.fail
theorem InO.no{o:Op}(h:InO o){l:List Op}(h1:l.contains .text=false)(h2:l.contains .undef=false)(h3:l.contains .fail=false):l.contains o=false:=by
 rcases h with h|h|h <;> rw[h] <;> assumption
theorem InO.nj{o:Op}(h:InO o):o.isJ=false:=by rcases h with h|h|h <;> rw[h] <;> rfl
noncomputable def I0(R:Rows):Prop:=∃r,R[0]?=some (some r)/\InO r.op
theorem I0.no(h:I0 R){l:List Op}(hb:Yu l (at_ R p)=true)(h1:l.contains .text=false)(h2:l.contains .undef=false)(h3:l.contains .fail=false):p≠0:=by
 rintro rfl
 obtain⟨r,e1,e2⟩:=h
 unfold at_ at hb
 rw[e1]at hb
 have hb:l.contains r.op=true:=hb
 rw[e2.no h1 h2 h3]at hb;cases hb
theorem I0.set(h:I0 R)(hp:p≠0):I0 (R.set p o):=by
 obtain⟨r,e1,e2⟩:=h
 exact⟨r,by rw[List.getElem?_set_ne hp];exact e1,e2⟩
theorem Zij{a b:Bool}(h:(a&&b)=true):a=true:=(Bool.and_eq_true_iff.1 h).1
set_option tactic.hygienic true in
theorem I0.push(h:I0 R):I0 (Je mk p R):=by
 unfold Je;split
 .rename_i hc
  exact(h.set (h.no (Zij (Zij hc)) (by decide) (by decide) (by decide))).set (Nat.succ_ne_zero _)
 .exact h
set_option tactic.hygienic true in
theorem I0.copy(h:I0 R):I0 (Yr mk p R):=by
 unfold Yr;split
 .rename_i hc
  exact(h.set (h.no (Zij (Zij (Zij hc))) (by decide) (by decide) (by decide))).set (Nat.succ_ne_zero _)
 .exact h
set_option tactic.hygienic true in
theorem I0.swap(h:I0 R):I0 (Jd mk p R):=by
 unfold Jd;split
 .exact h
 .split
  .rename_i hc
   exact(h.set (h.no hc (by decide) (by decide) (by decide))).set (Nat.succ_ne_zero _)
  .split
   .exact h.set (Nat.succ_ne_zero _)
   .exact h
set_option tactic.hygienic true in
theorem I0.turn(h:I0 R):I0 (Xg mk p R):=by
 unfold Xg;split
 .rename_i r b e1 e2
  split
  .rename_i hc
   exact(h.set (h.no (l:=Xe) (by rw[e1];exact(Zij (Zij (Zij hc)))) (by decide) (by decide) (by decide))).set (Nat.succ_ne_zero _)
  .exact h
 .exact h
set_option tactic.hygienic true in
theorem I0.known(h:I0 R):I0 (Ya c mk p R):=by
 unfold Ya;split
 .rename_i r b e1 e2
  split
  .exact h
  .rename_i hc
   have hp:p≠0:=h.no (l:=[.push]) (by
    rw[e1]
    rw[Bool.or_eq_true,not_or]at hc
    have:(r.op==.push)=true:=by simpa using hc.1
    show[Op.push].contains r.op=true
    rw[eq_of_beq this];rfl) (by decide) (by decide) (by decide)
   unfold gK;split
   .exact(h.set hp).set (Nat.succ_ne_zero _)
   .split
    .split
     .split
      .exact(h.set hp).set (Nat.succ_ne_zero _)
      .exact h
     .exact h
    .exact h
 .exact h
theorem Zec{g:Nat->Rows->Rows}(hg:∀p R,I0 R->I0 (g p R))(h:I0 R):∀k,I0 (win g k R)
 |0=>h
 |k+1=>hg k _ (Zec hg h k)
theorem I0.pressed(h:I0 R):Inert (c.pressed R):=by
 obtain⟨r,e1,e2⟩:=h
 obtain⟨T,rfl⟩:∃T,R=some r::T:=by
  cases R with
  |nil=>cases e1
  |cons q T=>exact⟨T,by rw[show q=some r from Option.some.inj e1]⟩
 refine⟨r.re (plc (some r::T)),?_,by rw[Zgv];exact e2⟩
 show(((some r::T).filterMap id).map _)[0]?=_
 rfl
theorem Inert.all(h:Inert c):I0 c.all:=by
 obtain⟨r,e1,e2⟩:=h
 exact⟨r,by unfold Cd.all;rw[List.getElem?_map,e1];rfl,e2⟩
theorem Inert.pushes(h:Inert c):Inert c.pushes:=(Zec (λp R=>I0.push) h.all _).pressed
theorem Inert.copies(h:Inert c):Inert c.copies:=(Zec (λp R=>I0.copy) h.all _).pressed
theorem Inert.swaps(h:Inert c):Inert c.swaps:=(Zec (λp R=>I0.swap) h.all _).pressed
theorem Inert.turned(h:Inert c):Inert c.turned:=(Zec (λp R=>I0.turn) h.all _).pressed
theorem Inert.known(h:Inert c):Inert c.known:=(Zec (λp R=>I0.known) h.all _).pressed
theorem ZUb{f:Rw×Nat->Option Rw}(hr:c.rows[0]?=some r):(c.rows.zipIdx.map f)[0]?=some (f (r,0)):=by
 rw[List.getElem?_map,List.getElem?_zipIdx,hr];rfl
theorem Inert.short(h:Inert c):Inert c.short:=by
 obtain⟨r,e1,e2⟩:=h
 refine I0.pressed ⟨r,?_,e2⟩
 rw[ZUb e1]
 unfold Zg
 rw[InO.nj e2,Bool.false_and,if_neg (by nofun)]
theorem Inert.undead(h:Inert c)(h0:0∈c.starts):Inert c.undead:=by
 obtain⟨r,e1,e2⟩:=h
 refine I0.pressed ⟨r,?_,e2⟩
 rw[ZUb e1]
 dsimp only
 rw[Yn.mpr (.start h0),if_pos rfl]
theorem Inert.threaded(h:Inert c):Inert c.threaded:=by
 obtain⟨r,e1,e2⟩:=h
 refine I0.pressed ⟨r,?_,e2⟩
 rw[List.getElem?_map,e1]
 show some (some (c.thr r))=_
 unfold Cd.thr
 rw[InO.nj e2,if_neg (by nofun)]
theorem Zbs{q:List Nat}(h:c.starts=0::q):∃q',(c.pressed R).starts=0::q'/\q'.length=q.length:=⟨q.map (plc R),by
 show c.starts.map _=_
 rw[h,List.map_cons]
 congr 1,List.length_map ..⟩
theorem ZKo(ok:Ok A)(okJ:Ok (jn A S sk))(hn:0 < S.rows.length):Ok (fzc A ℓ):=by
 have hl:=okJ.len
 rw[Qc]at hl
 have hz:(fzc A ℓ).rows=A.rows++[(⟨.fail,.str (Str.ofString "Seam"),.str (Str.ofString "t"),ℓ⟩:Rw).mv A.rows.length]:=rfl
 have hc:(fzc A ℓ).catches=A.catches:=List.append_nil _
 have hs:(fzc A ℓ).starts=A.starts:=List.append_nil _
 have mem:∀r∈(fzc A ℓ).rows,r∈A.rows\/r=⟨.fail,.str (Str.ofString "Seam"),.str (Str.ofString "t"),ℓ⟩:=λr hr=>by
  rw[hz]at hr
  rcases List.mem_append.mp hr with z|z
  .exact .inl z
  .right;rw[List.mem_singleton.mp z];exact Zhf rfl
 refine⟨by rw[Yb];exact Nat.le_trans (Nat.add_le_add_left hn _) hl,λr hr hj=>?_,λr hr=>?_,λp r hp he=>?_,λk hk=>?_,by rw[hc];exact ok.cln,λs h=>?_,by rw[hs];exact ok.sln,by rw[hs];exact ok.sne⟩
 .rcases mem r hr with z|rfl
  .have:=ok.jmp r z hj
   rw[Yb];exact⟨this.1,Nat.lt_succ_of_lt this.2⟩
  .cases hj
 .rcases mem r hr with z|rfl
  .exact ok.pln r z
  .exact⟨sok _,sok _⟩
 .rw[Yb]
  have hp':=(List.getElem?_eq_some_iff.mp hp).1
  rw[Yb]at hp'
  by_cases e:p < A.rows.length
  .exact Nat.succ_lt_succ e
  .obtain rfl:p=A.rows.length:=Nat.le_antisymm (Nat.le_of_lt_succ hp') (Nat.le_of_not_lt e)
   rw[Zlv]at hp
   cases hp;cases he
 .rw[hc]at hk
  have z:=ok.cat k hk
  rw[Yb];exact⟨z.1,Nat.le_succ_of_le z.2.1,Nat.lt_succ_of_lt z.2.2⟩
 .rw[hs]at h
  rw[Yb];exact Nat.lt_succ_of_lt (ok.sta s h)
theorem Ok.oo(ok:Ok A):Oo A:=⟨λr hr hj=>⟨(ok.jmp r hr hj).1,Nat.le_of_lt (ok.jmp r hr hj).2⟩,λk hk=>have z:=ok.cat k hk;⟨Nat.le_trans (Nat.le_of_lt z.1) z.2.1,z.2.1,Nat.le_of_lt z.2.2⟩,λs hs=>Nat.le_of_lt (ok.sta s hs)⟩
theorem Znx(ok:Ok A){k:Nat}:∀{p:Nat},p < A.rows.length->(fzc A ℓ).eoj k p=A.eoj k p:=by
 induction k with
 |zero=>exactλ_=>rfl
 |succ k ih=>
  intro p hp
  have hr:=List.getElem?_eq_getElem hp
  have h1:(fzc A ℓ).rows[p]?=some A.rows[p]:=(Yl hp).trans hr
  cases hj:A.rows[p].op==.jump with
  |false=>exact(Zny h1 hj k).trans (Zny hr hj k).symm
  |true=>exact(Zuu h1 hj k).trans ((ih (ok.jmp _ (List.getElem_mem hp) (by rw[eq_of_beq hj];rfl)).2).trans (Zuu hr hj k).symm)
theorem Zbh(ok:Ok A):A.threaded=thA A ℓ:=by
 rw[Zad ok]
 refine Cd.ext ?_ rfl rfl
 show A.rows.map A.thr=A.rows.map (thJ A (zr ℓ) ℓ)
 refine List.map_congr_left λr hr=>?_
 unfold thJ
 cases hj:r.op.isJ with
 |false=>unfold Cd.thr;rw[hj];rfl
 |true=>
  have ht:=(ok.jmp r hr hj).2
  have hf:(fzc A ℓ).fin r.t=A.fin r.t:=by
   unfold Cd.fin
   rw[Znx ok ht,Zjr ok ht (by rw[Yb];exact Nat.le_succ _)]
  have hl:=Zhs ok ht
  rw[if_pos rfl,hf,if_neg (Nat.ne_of_lt hl)]
  unfold Cd.thr
  rw[hf,Zld hl]
end
section
variable{A S F J c:Cd}{R:Rows}{sk p:Nat}{ℓ:Int}{b:Bool}
structure Iw(b:Bool)(A S:Cd)(ℓ:Int)(sk:Nat):Prop where
 okF:Ok (fzc A ℓ)
 okA:b=false->Ok A
 okS:Ok S
 okJ:Ok (jn A S sk)
 oa:Oo A
 nsm:AQ nsm A
 st:∃q,S.starts=0::q/\(sk=0\/(sk=1/\q=[]))
 cl:Inert S\/HC A
 md:b=false->sk=0
noncomputable def Fc(b:Bool)(A:Cd)(ℓ:Int):Cd:=match b with
 |true=>fzc A ℓ
 |false=>A
theorem Iw.hs(h:Iw b A S ℓ sk):HS S sk:=by
 obtain⟨q,e,z|⟨z,_⟩⟩:=h.st
 .exact .inl z
 .exact .inr ⟨z,q,e⟩
theorem Iw.sf(h:Iw b A S ℓ sk):Sf A S:=h.cl.imp id λc=>HL.tail c.h
theorem Iw.hj(h:Iw b A S ℓ sk):∀r∈S.rows,r.op.isJ=true->r.a=nat r.t:=λr hr hj=>(h.okS.jmp r hr hj).1
theorem Iw.nb(h:Iw b A S ℓ sk):(∀r,S.rows[0]?=some r->Xe.contains r.op=false)\/NoJ A:=by
 rcases h.cl with⟨r,e1,e2⟩|c
 .refine .inl λq hq=>?_
  rw[e1]at hq
  cases hq
  exact InO.no e2 (by decide) (by decide) (by decide)
 .exact .inr c.n
theorem Iw.step{A':Cd}{x:Cd->Cd}(h:Iw b A S ℓ sk)(okx:∀{c},Ok c->Ok (x c))(eF:x (fzc A ℓ)=fzc A' ℓ)(eJ:x (jn A S sk)=jn A' (x S) sk)(eA:b=false->x A=A')(oa:Oo A')(nsm:AQ Mine.nsm A')(st:∃R,(x S).starts=(S.pressed R).starts)(cl:Inert (x S)\/HC A'):Iw b A' (x S) ℓ sk/\x (Fc b A ℓ)=Fc b A' ℓ/\x (jn A S sk)=jn A' (x S) sk:=by
 refine⟨⟨by rw[<- eF];exact okx h.okF,λe=>by rw[<- eA e];exact okx (h.okA e),okx h.okS,by rw[<- eJ];exact okx h.okJ,oa,nsm,?_,cl,h.md⟩,?_,eJ⟩
 .obtain⟨q,e,z⟩:=h.st
  obtain⟨R,e2⟩:=st
  obtain⟨q',e3,e4⟩:=Zbs (R:=R) e
  refine⟨q',by rw[e2,e3],z.imp id λz=>⟨z.1,?_⟩⟩
  rw[z.2]at e4
  exact List.eq_nil_of_length_eq_zero e4
 .cases b
  .exact eA rfl
  .exact eF
theorem Zou(h:NoJ A):thA A ℓ=A:=by
 refine Cd.ext ?_ rfl rfl
 show A.rows.map _=A.rows
 conv=>rhs;rw[<- List.map_id A.rows]
 exact List.map_congr_left λr hr=>ZBv (h r hr)
theorem ZDl(oa:Oo A)(okF:Ok (fzc A ℓ)):Oo (thA A ℓ):=by
 have ok:=okF.threaded
 rw[fzc,Yo oa okF ZBh okF Yc,Qg]at ok
 refine⟨λr hr hj=>?_,λk hk=>?_,λs hs=>?_⟩
 .obtain⟨a,b⟩:=ok.jmp r (List.mem_append_left _ hr) hj
  rw[show(jn (thA A ℓ) (zr ℓ) 1).rows.length=(thA A ℓ).rows.length+1 from Qc]at b
  exact⟨a,Nat.le_of_lt_succ b⟩
 .rw[Xc];exact oa.cat k hk
 .rw[Xc];exact oa.sta s hs
theorem Iw.threaded(h:Iw b A S ℓ sk):Iw b (thA A ℓ) S.threaded ℓ sk/\(Fc b A ℓ).threaded=Fc b (thA A ℓ) ℓ/\(jn A S sk).threaded=jn (thA A ℓ) S.threaded sk:=by
 refine h.step Ok.threaded (by rw[fzc,Yo h.oa h.okF ZBh h.okF Yc,Qg]) ?_ (λe=>Zbh (h.okA e)) (ZDl h.oa h.okF) (Zue rfl h.nsm) ⟨_,rfl⟩ ?_
 .rcases h.cl with c|c
  .exact Yo h.oa h.okF h.okS h.okJ c
  .rw[Zgk h.okS h.okJ c.n,Zou c.n]
 .rcases h.cl with c|c
  .exact .inl c.threaded
  .rw[Zou c.n];exact .inr c
theorem Iw.known(h:Iw b A S ℓ sk):Iw b A.known S.known ℓ sk/\(Fc b A ℓ).known=Fc b A.known ℓ/\(jn A S sk).known=jn A.known S.known sk:=
 h.step Ok.known (by rw[fzc,Zaw h.oa Zuw Zda (.inl Yc) (.inl ZHz),Zkf]) (Zaw h.oa h.hj h.hs h.sf h.nb) (λ_=>rfl) Zm h.nsm.known ⟨_,rfl⟩ (h.cl.imp Inert.known HC.known)
theorem Iw.turned(h:Iw b A S ℓ sk):Iw b A.turned S.turned ℓ sk/\(Fc b A ℓ).turned=Fc b A.turned ℓ/\(jn A S sk).turned=jn A.turned S.turned sk:=
 h.step Ok.turned (by rw[fzc,Qp h.oa Zuw Zda,Zgf]) (Qp h.oa h.hj h.hs) (λ_=>rfl) Zm h.nsm.turned ⟨_,rfl⟩ (h.cl.imp Inert.turned HC.turned)
theorem Iw.short(h:Iw b A S ℓ sk):Iw b A.short S.short ℓ sk/\(Fc b A ℓ).short=Fc b A.short ℓ/\(jn A S sk).short=jn A.short S.short sk:=
 h.step Ok.short (by rw[fzc,Zat h.oa,Zke]) (Zat h.oa) (λ_=>rfl) Zm (h.nsm.short rfl) ⟨_,rfl⟩ (h.cl.imp Inert.short HC.short)
theorem Iw.pushes(h:Iw b A S ℓ sk):Iw b A.pushes S.pushes ℓ sk/\(Fc b A ℓ).pushes=Fc b A.pushes ℓ/\(jn A S sk).pushes=jn A.pushes S.pushes sk:=
 h.step Ok.pushes (by rw[fzc,Qy h.oa Zda (.inl Yc),Zgg]) (Qy h.oa h.hs h.sf) (λ_=>rfl) Zm h.nsm.pushes ⟨_,rfl⟩ (h.cl.imp Inert.pushes HC.pushes)
theorem Iw.copies(h:Iw b A S ℓ sk):Iw b A.copies S.copies ℓ sk/\(Fc b A ℓ).copies=Fc b A.copies ℓ/\(jn A S sk).copies=jn A.copies S.copies sk:=
 h.step Ok.copies (by rw[fzc,Uh h.oa Zda (.inl Yc),Zgh]) (Uh h.oa h.hs h.sf) (λ_=>rfl) Zm h.nsm.copies ⟨_,rfl⟩ (h.cl.imp Inert.copies HC.copies)
theorem Iw.swaps(h:Iw b A S ℓ sk):Iw b A.swaps S.swaps ℓ sk/\(Fc b A ℓ).swaps=Fc b A.swaps ℓ/\(jn A S sk).swaps=jn A.swaps S.swaps sk:=
 h.step Ok.swaps (by rw[fzc,Zar h.oa Zda (.inl Yc),Zkd]) (Zar h.oa h.hs h.sf) (λ_=>rfl) Zm h.nsm.swaps ⟨_,rfl⟩ (h.cl.imp Inert.swaps HC.swaps)
noncomputable def R3(F S J:Cd)(ℓ:Int)(sk:Nat):Prop:=(∃b A,Iw b A S ℓ sk/\F=Fc b A ℓ/\J=jn A S sk)\/(sk=1/\F=J/\Ok F/\AQ Mine.nsm F)
theorem Iw.st0(h:Iw b A S ℓ sk):0∈S.starts:=by
 obtain⟨q,e,_⟩:=h.st
 rw[e];exact .head _
theorem Iw.undead(h:Iw b A S ℓ sk):R3 (Fc b A ℓ).undead S.undead (jn A S sk).undead ℓ sk:=by
 have cl:Inert S.undead\/HC A.undead:=h.cl.imp (λc=>c.undead h.st0) HC.undead
 have stq:∀{k:Nat},(∃q,S.starts=0::q/\(k=0\/(k=1/\q=[])))->∃q,S.undead.starts=0::q/\(k=0\/(k=1/\q=[])):=λ{k} ⟨q,e,z⟩=>by
  obtain⟨q',e3,e4⟩:=Zbs (R:=S.rows.zipIdx.map λx=>if S.live x.2 then some x.1 else none) e
  refine⟨q',e3,z.imp id λz=>⟨z.1,?_⟩⟩
  rw[z.2]at e4
  exact List.eq_nil_of_length_eq_zero e4
 have led:Led A S sk\/(sk=1/\S.starts=[0]/\¬Reach A A.rows.length):=by
  obtain⟨q,e,z|⟨z,z2⟩⟩:=h.st
  .exact .inl (.inl z)
  .by_cases hr:Reach A A.rows.length
   .exact .inl (.inr ⟨z,⟨q,e⟩,hr⟩)
   .exact .inr ⟨z,by rw[e,z2],hr⟩
 have gone:¬Reach A A.rows.length->(fzc A ℓ).undead=A.undead:=λhr=>Ul h.oa rfl hr
 cases b with
 |true=>
  by_cases hr:Reach A A.rows.length
  .have eF:(fzc A ℓ).undead=fzc A.undead ℓ:=by rw[fzc,Yp h.oa (.head _) (.inr ⟨rfl,⟨[],rfl⟩,hr⟩),Zge]
   have eJ:(jn A S sk).undead=jn A.undead S.undead sk:=Yp h.oa h.st0 (led.resolve_right λz=>z.2.2 hr)
   refine .inl ⟨true,A.undead,⟨by rw[<- eF];exact h.okF.undead,nofun,h.okS.undead,by rw[<- eJ];exact h.okJ.undead,Zm,h.nsm.undead,stq h.st,cl,nofun⟩,eF,eJ⟩
  .have eF:=gone hr
   have okA:Ok A.undead:=by rw[<- eF];exact h.okF.undead
   rcases led with z|⟨z1,z2,_⟩
   .have h0:sk=0:=by
     rcases z with z|z
     .exact z
     .exact absurd z.2.2 hr
    have eJ:(jn A S sk).undead=jn A.undead S.undead sk:=Yp h.oa h.st0 z
    have okJ:Ok (jn A.undead S.undead sk):=by rw[<- eJ];exact h.okJ.undead
    refine .inl ⟨false,A.undead,⟨ZKo okA okJ h.okS.undead.pos,λ_=>okA,h.okS.undead,okJ,Zm,h.nsm.undead,stq h.st,cl,λ_=>h0⟩,eF,eJ⟩
   .subst z1
    exact .inr ⟨rfl,by show(fzc A ℓ).undead=_;rw[eF,Ul h.oa z2 hr],by show Ok (fzc A ℓ).undead;exact h.okF.undead,by show AQ Mine.nsm (fzc A ℓ).undead;rw[eF];exact h.nsm.undead⟩
 |false=>
  have okA:=h.okA rfl
  have h0:=h.md rfl
  have eJ:(jn A S sk).undead=jn A.undead S.undead sk:=Yp h.oa h.st0 (.inl h0)
  have okJ:Ok (jn A.undead S.undead sk):=by rw[<- eJ];exact h.okJ.undead
  exact .inl ⟨false,A.undead,⟨ZKo okA.undead okJ h.okS.undead.pos,λ_=>okA.undead,h.okS.undead,okJ,Zm,h.nsm.undead,stq h.st,cl,λ_=>h0⟩,rfl,eJ⟩
noncomputable def In3(F S J:Cd)(ℓ:Int)(sk:Nat):Prop:=∃b A,Iw b A S ℓ sk/\F=Fc b A ℓ/\J=jn A S sk
theorem In3.run{x:Cd->Cd}{g:Cd->Cd}(h:In3 F S J ℓ sk)(r:∀{b A},Iw b A S ℓ sk->Iw b (g A) (x S) ℓ sk/\x (Fc b A ℓ)=Fc b (g A) ℓ/\x (jn A S sk)=jn (g A) (x S) sk):In3 (x F) (x S) (x J) ℓ sk:=by
 obtain⟨b,A,h,e,e2⟩:=h
 have r:=r h
 exact⟨b,g A,r.1,e▸r.2.1,e2▸r.2.2⟩
theorem In3.undead(h:In3 F S J ℓ sk):R3 F.undead S.undead J.undead ℓ sk:=by
 obtain⟨b,A,h,rfl,rfl⟩:=h
 exact h.undead
theorem R3.run{x g:Cd->Cd}(h:R3 F S J ℓ sk)(r:∀{b A},Iw b A S ℓ sk->Iw b (g A) (x S) ℓ sk/\x (Fc b A ℓ)=Fc b (g A) ℓ/\x (jn A S sk)=jn (g A) (x S) sk)(o:Ok F->Ok (x F))(a:AQ Mine.nsm F->AQ Mine.nsm (x F)):R3 (x F) (x S) (x J) ℓ sk:=
 h.imp (λh=>In3.run h r) λh=>⟨h.1,congrArg x h.2.1,o h.2.2.1,a h.2.2.2⟩
theorem R3.round(h:R3 F S J ℓ sk):R3 F.round S.round J.round ℓ sk:=by
 rcases h with h|⟨h1,h2,h3,h4⟩
 .have h:In3 F S J ℓ sk:=h
  have h:=h.run (x:=Cd.threaded) (g:=λA=>thA A ℓ) Iw.threaded
  have h:=h.run (x:=Cd.known) (g:=Cd.known) Iw.known
  have h:=h.run (x:=Cd.turned) (g:=Cd.turned) Iw.turned
  have h:=(h.run (x:=Cd.short) (g:=Cd.short) Iw.short).undead
  have h:=h.run (x:=Cd.pushes) (g:=Cd.pushes) Iw.pushes Ok.pushes AQ.pushes
  have h:=h.run (x:=Cd.copies) (g:=Cd.copies) Iw.copies Ok.copies AQ.copies
  exact h.run (x:=Cd.swaps) (g:=Cd.swaps) Iw.swaps Ok.swaps AQ.swaps
 .exact .inr ⟨h1,congrArg Cd.round h2,h3.round,h4.round rfl⟩
theorem R3.rounds(h:R3 F S J ℓ sk)(k:Nat):R3 (Cd.rounds k F) (Cd.rounds k S) (Cd.rounds k J) ℓ sk:=by
 induction k generalizing F S J with
 |zero=>exact h
 |succ k ih=>exact ih h.round
theorem R3.tidy(h:R3 (Cd.rounds 24 F) (Cd.rounds 24 S) (Cd.rounds 24 J) ℓ sk):Cd.rounds 24 J=Zvf F S sk:=by
 unfold Zvf
 generalize Cd.rounds 24 F=F' at*
 generalize Cd.rounds 24 S=S' at*
 generalize Cd.rounds 24 J=J' at*
 rcases h with⟨b,A,iv,rfl,rfl⟩|⟨rfl,rfl,h3,h4⟩
 .cases b with
  |true=>
   show jn A S' sk=jn (bdy (fzc A ℓ)) (if sk==1&&((fzc A ℓ).rows.filter λr=>Xn r.a).isEmpty then zed else S') sk
   rw[Zig iv.oa iv.nsm,if_neg]
   rw[Bool.and_eq_true]
   rintro ⟨_,e⟩
   exact ZCh iv.oa (List.isEmpty_iff.mp e)
  |false=>
   show jn A S' sk=jn (bdy A) (if sk==1&&(A.rows.filter λr=>Xn r.a).isEmpty then zed else S') sk
   rw[Zfz iv.oa iv.nsm,if_neg]
   rw[iv.md rfl];nofun
 .rw[Zfz h3.oo h4,ZKq h3.oo h4,if_pos (by decide)]
  exact ZAk.symm
end
section
variable{B S F J c:Cd}{A L:List Ld}{sk p m n:Nat}{ℓ:Int}{h hB hS:Nat->Nat}{r:Rw}
structure Ob(B:Cd):Prop where
 oa:Oo B
 pl:∀r∈B.rows,r.pl
 cf:∀k∈B.catches,k.first < k.last
theorem ZKz{d:Nat}(hj:r.op.isJ=true):(r.mv d).a=nat (r.mv d).t:=by unfold Rw.mv Rw.re;rw[if_pos hj];rfl
theorem ZKx(hp:r.pl){d:Nat}:(r.mv d).pl:=by
 cases hj:r.op.isJ with
 |false=>rw[Zhf hj];exact hp
 |true=>unfold Rw.mv Rw.re;rw[if_pos hj];exact⟨trivial,hp.2⟩
theorem ZEu(h:(jn B S sk).rows[p]?=some r):(p < B.rows.length/\B.rows[p]?=some r)\/∃i q,p=B.rows.length+i/\S.rows[i]?=some q/\r=q.mv B.rows.length:=by
 by_cases e:p < B.rows.length
 .rw[Yl e]at h;exact .inl ⟨e,h⟩
 .obtain⟨i,e⟩:=Nat.exists_eq_add_of_le (Nat.le_of_not_lt e)
  rw[e,Zaf]at h
  exact .inr (Zp h λq h1 h2=>⟨i,q,e,h1,h2.symm⟩)
theorem Uj{α β:Type}{l:List α}{l':List β}{f:β->α}{a:α}(h:a∈l++l'.map f):a∈l\/∃q∈l',a=f q:=(List.mem_append.mp h).imp id λz=>(List.mem_map.mp z).imp λq h=>⟨h.1,h.2.symm⟩
theorem ZSm{k:Ct}(h:k.first < k.last/\k.last<=n/\k.target < n):(k.mv m).first < (k.mv m).last/\(k.mv m).last<=m+n/\(k.mv m).target < m+n:=by
 rw[Nat.add_comm m n]
 exact⟨Nat.add_lt_add_right h.1 m,Nat.add_le_add_right h.2.1 m,Nat.add_lt_add_right h.2.2 m⟩
theorem ZQn(ob:Ob B)(okS:Ok S)(hr:c.rows=(jn B S sk).rows)(hk:c.catches=(jn B S sk).catches)(hl:B.rows.length+S.rows.length<=60)(hc:B.catches.length+S.catches.length<=10)(hs:∀s∈c.starts,s < B.rows.length+S.rows.length)(hsl:c.starts.length<=10)(hne:c.starts≠[]):Ok c:=by
 obtain⟨rs,ks,ss⟩:=c
 have hr:rs=_:=hr
 have hk:ks=_:=hk
 subst hr hk
 have lt:∀{i},i<=B.rows.length->i < B.rows.length+S.rows.length:=λh=>Nat.lt_of_le_of_lt h (Nat.lt_add_of_pos_right okS.pos)
 have e:(jn B S sk).rows.length=B.rows.length+S.rows.length:=Qc
 refine⟨e▸hl,λr h hj=>?_,λr h=>?_,λp r hp he=>Nat.lt_of_lt_of_eq ?_ e.symm,λk h=>e.symm▸?_,?_,λs h=>e.symm▸hs s h,hsl,hne⟩
 .show _/\r.t < (jn B S sk).rows.length
  rw[e]
  rcases Uj h with z|⟨q,z,rfl⟩
  .exact⟨(ob.oa.jmp r z hj).1,lt (ob.oa.jmp r z hj).2⟩
  .rw[Xa]at hj
   rw[ZKz hj,Zoh hj,Nat.add_comm q.t]
   exact⟨rfl,Nat.add_lt_add_left (okS.jmp q z hj).2 _⟩
 .rcases Uj h with z|⟨q,z,rfl⟩
  .exact ob.pl r z
  .exact ZKx (okS.pln q z)
 .rcases ZEu (sk:=sk) hp with⟨h,_⟩|⟨i,q,rfl,h1,rfl⟩
  .exact lt h
  .rw[Xa]at he
   exact Nat.add_lt_add_left (okS.nxt i q h1 he) _
 .rcases Uj h with z|⟨q,z,rfl⟩
  .exact⟨ob.cf k z,Nat.le_of_lt (lt (ob.oa.cat k z).2.1),lt (ob.oa.cat k z).2.2⟩
  .exact ZSm (okS.cat q z)
 .show(B.catches++S.catches.map _).length<=10
  rw[List.length_append,List.length_map];exact hc
structure OC(B:Cd)(h:Nat->Nat):Prop where
 row:∀i r,B.rows[i]?=some r->r.op.tk<=h i->(r.op.isJ=true->h r.t+r.op.tk=h i+r.op.pt)/\(r.op.isEnd=false->h (i+1)+r.op.tk=h i+r.op.pt)
 cat:∀k∈B.catches,h k.target=k.depth+1/\k.target < B.rows.length/\k.last<=B.rows.length/\∀i,k.first<=i->i < k.last->k.depth<=h i
 top:h B.rows.length=0
noncomputable def hj(m:Nat)(hB hS:Nat->Nat)(i:Nat):Nat:=if i < m then hB i else hS (i - m)
theorem Zut{i:Nat}(hi:i < m):hj m hB hS i=hB i:=if_pos hi
theorem Znk{i:Nat}:hj m hB hS (m+i)=hS i:=by unfold hj;rw[if_neg (Nat.not_lt_of_le (Nat.le_add_right m i)),Nat.add_sub_cancel_left]
theorem ZFf{i:Nat}(hi:i<=m)(h0:hB m=0)(h1:hS 0=0):hj m hB hS i=hB i:=(Nat.lt_or_eq_of_le hi).elim Zut λe=>e▸(Znk (m:=i) (i:=0)).trans (h1.trans (e▸h0).symm)
theorem Zly(h:r.frm n)(hj:r.op.isJ=true->r.a=nat r.t/\r.t < m):r.frm m:=⟨h.l,h.e,hj,h.s⟩
theorem ZMg(h:r.frm n){d:Nat}(hm:r.op.isJ=true->r.t+d < m):(r.mv d).frm m:=by
 cases hj:r.op.isJ with
 |false=>rw[Zhf hj];exact Zly h λe=>absurd (hj.symm.trans e) Bool.false_ne_true
 |true=>
  have e:r.mv d=r.to (r.t+d):=by unfold Rw.mv Rw.re;rw[if_pos hj]
  exact e▸ZFq (r:=r.to _) hj (hm hj) rfl (h.e 1 (by rw[ZLh hj];exact Nat.le_refl 1) (Nat.lt_succ_self 1))
theorem ZFg(ok:Ok c)(oa:Oo B)(okS:Ok S)(oc:OC B hB)(con:Con S hS)(h0:hS 0=0)(fB:∀r∈B.rows,r.frm (B.rows.length+1))(fS:Fr S)(kB:∀k∈B.catches,(k.sort="rescue"\/k.sort="ensure")/\k.first < k.last)(hr:c.rows=(jn B S sk).rows)(hk:c.catches=(jn B S sk).catches)(hs:∀s∈c.starts,hj B.rows.length hB hS s=0):Hc c (hj B.rows.length hB hS):=by
 have row:∀{p r},(jn B S sk).rows[p]?=some r->r.op.tk<=hj B.rows.length hB hS p->(r.op.isJ=true->hj B.rows.length hB hS r.t+r.op.tk=hj B.rows.length hB hS p+r.op.pt)/\(r.op.isEnd=false->hj B.rows.length hB hS (p+1)+r.op.tk=hj B.rows.length hB hS p+r.op.pt):=λ{p r} e ht=>by
  rcases ZEu e with⟨e1,e2⟩|⟨i,q,rfl,h1,rfl⟩
  .rw[Zut e1]at ht⊢
   have o:=oc.row p r e2 ht
   exact⟨λj=>by rw[ZFf (oa.jmp r (List.mem_of_getElem? e2) j).2 oc.top h0];exact o.1 j,λj=>by rw[ZFf e1 oc.top h0];exact o.2 j⟩
  .have o:=(con.row i q h1).2
   rw[Xa,Znk]
   exact⟨λj=>by rw[Zoh j,Nat.add_comm q.t,Znk];exact o.1 j,λj=>by rw[Nat.add_assoc,Znk];exact o.2 j⟩
 obtain⟨rs,ks,ss⟩:=c
 have hr:rs=_:=hr
 have hk:ks=_:=hk
 subst hr hk
 refine⟨ok,λp hp _=>?_,hs,λr h=>?_,λk h=>?_⟩
 .have e:=List.getElem?_eq_getElem hp
  have j:=ok.jmp _ (List.getElem_mem hp)
  refine⟨e,λhj'=>⟨(j hj').1,(j hj').2,λht=>(row e ht).1 hj'⟩,λhe=>⟨ok.nxt p _ e he,λht=>(row e ht).2 he⟩,λk h k1 k2=>?_⟩
  have kt:=(ok.cat k h).2.2
  rcases Uj h with z|⟨q,z,rfl⟩
  .obtain⟨g1,g2,g3,g4⟩:=oc.cat k z
   rw[Zut (Nat.lt_of_lt_of_le k2 g3),Zut g2]
   exact⟨g4 p k1 k2,g1,kt⟩
  .obtain⟨g1,g2⟩:=con.cat q z
   obtain⟨i,rfl⟩:=Nat.exists_eq_add_of_le (Nat.le_trans (Nat.le_add_left _ _) k1:B.rows.length<=p)
   have e:(q.mv B.rows.length).target=B.rows.length+q.target:=Nat.add_comm _ _
   rw[Znk]
   refine⟨g2 i (Nat.le_of_add_le_add_right (Nat.add_comm _ i▸k1)) (Nat.lt_of_add_lt_add_right (Nat.add_comm _ i▸k2)),?_,kt⟩
   rw[e,Znk];exact g1
 .rcases Uj h with z|⟨q,z,rfl⟩
  .exact Zly (fB r z) (ok.jmp r h)
  .exact ZMg (fS.frm q z) λj=>Zoh (d:=B.rows.length) j▸(ok.jmp _ h (by rw[Xa];exact j)).2
 .rcases Uj h with z|⟨q,z,rfl⟩
  .exact⟨(kB k z).1,ok.cat k h⟩
  .exact⟨(fS.cat q z).1,ok.cat _ h⟩
theorem Zyc{f:Nat->Bool}{g1 g2:Nat->Bool}(h1:∀i,i < m->f i=g1 i)(h2:∀i,i < n->f (m+i)=g2 i):dl (m+n) f (hj m hB hS)=dl m g1 hB++dl n g2 hS:=by
 unfold dl
 rw[List.range_add,List.map_append,List.map_map]
 refine congr (congrArg _ (List.map_congr_left λi hi=>?_)) (List.map_congr_left λi hi=>?_)
 .rw[h1 i (List.mem_range.mp hi),Zut (List.mem_range.mp hi)]
 .show(if f (m+i)=true then nat (hj m hB hS (m+i))else .none)=_
  rw[h2 i (List.mem_range.mp hi),Znk]
theorem ZGe{f:Nat->Bool}(hm:m<=n):(dl n f h).take m=dl m f h:=by
 unfold dl
 rw[<- List.map_take,List.take_range,Nat.min_eq_left hm]
theorem Zgu{x:Nat}(oa:Oo B)(hs:S.starts=[0])(hn:¬Reach B B.rows.length)(hx:Reach (jn B S 1) x):x < B.rows.length/\Reach B x:=by
 have fin:∀{x},x<=B.rows.length->Reach B x->x < B.rows.length/\Reach B x:=λh1 h2=>⟨Nat.lt_of_le_of_ne h1 λe=>hn (e▸h2),h2⟩
 induction hx with
 |start hs'=>
  rcases List.mem_append.mp hs' with z|z
  .exact fin (oa.sta _ z) (.start z)
  .rw[hs]at z;cases z
 |step _ hq ih=>
  rw[Zkm ih.1]at hq
  exact fin (Zeo oa hq).1 (.step ih.2 hq)
end
section
variable{B S F J c:Cd}{A L:List Ld}{sk p m n:Nat}{ℓ:Int}{h hB hS:Nat->Nat}{r:Rw}
structure Fsu(B:Cd)(A:List Ld)(h:Nat->Nat):Prop where
 len:B.rows.length=A.length
 ob:Ob B
 nsm:AQ nsm B
 rp:AQ Rp B
 oc:OC B h
 tk:∀i r,B.rows[i]?=some r->r.op.tk<=h i
 frm:∀r∈B.rows,r.frm (B.rows.length+1)
 cat:∀k∈B.catches,(k.sort="rescue"\/k.sort="ensure")/\k.first < k.last
 cl:B.catches.length<=1
 st:∀s∈B.starts,s < B.rows.length/\h s=0
 sl:B.starts.length<=2
 sne:B.starts≠[]
 ops:∀(i:Nat) (r:Rw),B.rows[i]?=some r->∃d:Ld,A[i]?=some d/\r.op=d.op
theorem Zjo(hs:Scn F S A L):∃B,F=fzc B (11+A.length)/\Fsu B A (hgt (A++[Yd])):=by
 obtain⟨okF,frF,conF,rpF⟩:=hs.first
 have hA:=hs.f
 have sc:=hs.sf
 have hlF:F.rows.length=A.length+1:=sc.len.trans List.length_append
 have tlen:(F.rows.take A.length).length=A.length:=by rw[List.length_take,hlF];exact Nat.min_eq_left (Nat.le_succ _)
 have st:=sc.stas (List.length_pos_iff.mpr hA.2.1)
 have ct:=sc.cats (by rw[List.length_append];exact Nat.le_succ _)
 have get:∀{i r},(F.rows.take A.length)[i]?=some r->i < A.length/\F.rows[i]?=some r:=λe=>⟨tlen▸(List.getElem?_eq_some_iff.mp e).1,Zbi e⟩
 obtain⟨r,e1,h1,h2,h3,-⟩:=sc.row A.length (by rw[List.length_append];exact Nat.lt_succ_self _)
 rw[List.getElem_concat_length rfl]at h1 h3
 obtain⟨h3,h4⟩:=h3 rfl
 have er:r=⟨.fail,.str (Str.ofString "Seam"),.str (Str.ofString "t"),11+A.length⟩:=by
  obtain⟨o,a,b,l⟩:=r
  have h1:o=_:=h1
  have h2:l=_:=h2
  have h3:a=_:=h3
  have h4:b=_:=h4
  rw[h1,h2,h3,h4];rfl
 subst er
 have el:=Zrq e1
 rw[<- hlF,List.take_length]at el
 refine⟨⟨F.rows.take A.length,F.catches,F.starts⟩,Cd.ext el (List.append_nil _).symm (List.append_nil _).symm,tlen,⟨⟨λr hr hj=>?_,λk hk=>?_,λs hs=>tlen.symm▸Nat.le_of_lt (st s hs).1⟩,λr hr=>okF.pln r (List.mem_of_mem_take hr),λk hk=>(ct k hk).2.1⟩,λr hr hj=>?_,λr hr _=>rpF r (List.mem_of_mem_take hr),
  ⟨λi r e _=>(conF.row i r (get e).2).2,λk hk=>?_,?_⟩,λi r e=>(conF.row i r (get e).2).1,λr hr=>?_,λk hk=>⟨(ct k hk).1,(ct k hk).2.1⟩,sc.cat.1,λs hs=>tlen.symm▸st s hs,sc.stl.1,sc.stl.2,λi r e=>?_⟩
 .have j:=okF.jmp r (List.mem_of_mem_take hr) hj
  exact⟨j.1,tlen.symm▸Nat.le_of_lt_succ (Nat.lt_of_lt_of_eq j.2 hlF)⟩
 .obtain⟨_,g1,g2,g3⟩:=ct k hk
  exact tlen.symm▸⟨Nat.le_of_lt (Nat.lt_of_lt_of_le g1 g2),g2,Nat.le_of_lt g3⟩
 .obtain⟨i,e⟩:=List.mem_iff_getElem?.mp hr
  obtain⟨hi,e⟩:=get e
  obtain⟨hi',hd⟩:=sc.at e
  rcases hA.at hi' with⟨_,g⟩|⟨g,_⟩
  .rw[hd.1]at hj
   rw[(hd.2.2.1 hj).1]
   exact Zvm (g.1 hj).2.2.2
  .exact absurd g (Nat.ne_of_lt hi)
 .obtain⟨_,g1,g2,g3⟩:=ct k hk
  have q:=conF.cat k hk
  exact tlen.symm▸⟨q.1,g3,g2,q.2⟩
 .show hgt (A++[Yd]) (F.rows.take A.length).length=0
  rw[tlen,Zfp (Nat.le_refl _)]
  unfold hgt
  rw[List.take_length];exact hA.2.2.2
 .show r.frm ((F.rows.take A.length).length+1)
  rw[tlen,<- hlF];exact frF.frm r (List.mem_of_mem_take hr)
 .obtain⟨hi,e⟩:=get e
  obtain⟨_,hd⟩:=sc.at e
  exact⟨A[i],List.getElem?_eq_getElem hi,hd.1.trans (by rw[List.getElem_append_left hi])⟩
theorem ZRv{l:List Rw}:∀{p:Nat},(∀i r,l[i]?=some r->r.op.tk<=h (p+i)/\(r.op.isEnd=false->h (p+i+1)+r.op.tk=h (p+i)+r.op.pt))->h (p+l.length)=0->HL l (h p):=by
 induction l with
 |nil=>exactλ_ h0=>h0
 |cons r l ih=>exactλ{p} hr h0=>⟨(hr 0 r rfl).1,h (p+1),(hr 0 r rfl).2,ih (λi q e=>by rw[Nat.add_right_comm];exact hr (i+1) q e) (by rw[Nat.add_right_comm];exact h0)⟩
theorem Fsu.hl(f:Fsu B A h):∃x,HL B.rows x:=⟨h 0,ZRv (p:=0) (λi r e=>by
 rw[Nat.zero_add]
 have:=f.tk i r e
 exact⟨this,(f.oc.row i r e this).2⟩) (by rw[Nat.zero_add];exact f.oc.top)⟩
theorem Fsu.tail(f:Fsu B A h):Zuk B:=HL.tail f.hl
theorem Con.nb(con:Con S h)(h0:h 0=0):∀r,S.rows[0]?=some r->Xe.contains r.op=false:=λr e=>by
 have k:=(con.row 0 r e).1
 cases hb:Xe.contains r.op with
 |false=>rfl
 |true=>
  rw[h0,show r.op.tk=1 from of_decide_eq_true (Zqm (P:=λo=>decide (o.tk=1)) (by decide) hb)]at k
  exact absurd k (by decide)
theorem Con.chain(con:Con S h){k:Nat}:∀{p q:Nat},S.eoj k p=some q->h q=h p:=by
 induction k with
 |zero=>exactλe=>ns e
 |succ k ih=>
  intro p q e
  cases hr:S.rows[p]? with
  |none=>rw[Cd.eoj,hr]at e;exact ns e
  |some r=>
   cases hj:r.op==.jump with
   |false=>rw[Zny hr hj]at e;rw[Option.some.inj e]
   |true=>
    rw[Zuu hr hj]at e
    have ho:=eq_of_beq hj
    have h2:=(con.row p r hr).2.1 (by rw[ho];rfl)
    rw[ho]at h2
    exact(ih e).trans h2
theorem Con.nl(con:Con S h)(h0:h 0=0):NL S:=λe he hl=>by
 unfold Cd.opAt at hl
 cases hr:S.rows[e]? with
 |none=>rw[hr]at hl;cases hl
 |some r=>
  rw[hr]at hl
  have ho:r.op=.leave:=Option.some.inj hl
  have h1:=(con.row e r hr).1
  rw[con.chain he,h0,ho]at h1
  exact absurd h1 (by decide)
theorem Zpk{F S:Cd}(hs:Scn F S A L)(f:Fsu B A h)(hc:Zmi A L):Inert S\/HC B:=by
 rcases hc with⟨d,e,hd⟩|hn
 .obtain⟨r,h1,h2⟩:=hs.ss.row 0 hs.s.lay.pos
  rw[List.getElem?_eq_getElem hs.s.lay.pos]at e
  rw[Option.some.inj e]at h2
  exact .inl ⟨r,h1,h2.1.symm▸hd⟩
 .refine .inr ⟨f.hl,λr hr=>?_⟩
  obtain⟨i,e⟩:=List.mem_iff_getElem?.mp hr
  obtain⟨d,h1,h2⟩:=f.ops i r e
  exact h2▸hn d (List.mem_of_getElem? h1)
theorem Zvl:∀x∈Xm,(x.2.2 c).starts.length=c.starts.length:=by
 have e:∀{f:Nat->Nat},(c.starts.map f).length=c.starts.length:=List.length_map _
 exact fm e (fm e (fm e (fm e (fm e (fm e (fm e (fm e fmN)))))))
theorem Zpd:c.round.starts.length=c.starts.length:=by
 unfold Cd.round
 iterate 8 refine(List.length_map _).trans ?_
 rfl
theorem Zmv(k:Nat):(Cd.rounds k c).starts.length=c.starts.length:=by
 induction k generalizing c with
 |zero=>rfl
 |succ k ih=>exact(ih (c:=c.round)).trans Zpd
end
section
variable{B S F J c:Cd}{A L:List Ld}{sk p m n:Nat}{ℓ:Int}{h hB hS:Nat->Nat}{r:Rw}
theorem Zpj(hs:Scn F S A L):∃q,S.starts=0::q/\q.length<=1:=hs.ss.sta.elim (λe=>⟨[],e,Nat.zero_le _⟩) λh=>h.elim λq h=>⟨[q],h.2.1,Nat.le_refl _⟩
theorem Zes(oa:Oo B):Reach (fzc B ℓ) B.rows.length↔Reach B B.rows.length:=by
 refine⟨λhx=>?_,Zbn oa⟩
 by_cases hr:Reach B B.rows.length
 .exact hr
 .exact absurd (Zgu (S:=zr ℓ) oa rfl hr hx).1 (Nat.lt_irrefl _)
theorem ZEi(oa:Oo B){i:Nat}(hi:i < B.rows.length):(fzc B ℓ).live i=B.live i:=Zcf oa (.inl (.head _)) hi
theorem ZIk(ft:∀i r,B.rows[i]?=some r->r.op.tk<=hB i)(con:Con S hS){r:Rw}(hr:(jn B S sk).rows[p]?=some r):r.op.tk<=hj B.rows.length hB hS p:=by
 rcases ZEu hr with⟨e,h⟩|⟨i,q,rfl,h,rfl⟩
 .rw[Zut e];exact ft p r h
 .rw[Xa,Znk];exact(con.row i q h).1
theorem Zqq(ob:Ob B)(hs:Scn F S A L)(okS:Ok S)(hl:B.rows.length<=7)(hc:B.catches.length<=1)(hst:∀s∈B.starts,s < B.rows.length)(hsl:B.starts.length<=2)(hne:B.starts++(S.starts.drop sk).map (·+B.rows.length)≠[]):Ok (jn B S sk):=by
 refine ZQn ob okS rfl rfl (Nat.le_trans (Nat.add_le_add hl (hs.ss.len▸hs.s.lay.len)) (by decide)) (Nat.le_trans (Nat.add_le_add hc hs.ss.cat.1) (by decide)) (λs h=>?_) ?_ hne
 .rcases Uj h with z|⟨t,ht,rfl⟩
  .exact Nat.lt_of_lt_of_le (hst s z) (Nat.le_add_right _ _)
  .rw[Nat.add_comm]
   exact Nat.add_lt_add_left (okS.sta t (List.mem_of_mem_drop ht)) _
 .show(B.starts++(S.starts.drop sk).map _).length<=10
  rw[List.length_append,List.length_map,List.length_drop]
  exact Nat.le_trans (Nat.add_le_add hsl (Nat.le_trans (Nat.sub_le _ _) hs.ss.stl.1)) (by decide)
structure Set_(B S:Cd)(A L:List Ld)(sk:Nat):Prop where
 f:Fsu B A (hgt (A++[Yd]))
 sc:Scn (fzc B (11+A.length)) S A L
 okF:Ok (fzc B (11+A.length))
 okS:Ok S
 frS:Fr S
 conS:Con S (hgt L)
 rpS:∀r∈S.rows,Rp r.a
 okJ:Ok (jn B S sk)
 led:Led B S sk
 st:∃q,S.starts=0::q/\(sk=0\/(sk=1/\q=[]))
 bdy:bdy (fzc B (11+A.length))=B
theorem ZJd(hs:Scn F S A L)(hk:ZHv F S A sk):∃B,F=fzc B (11+A.length)/\Set_ B S A L sk:=by
 obtain⟨B,rfl,f⟩:=Zjo hs
 obtain⟨okF,frF,conF,rpF⟩:=hs.first
 obtain⟨okS,frS,conS,rpS⟩:=hs.second
 obtain⟨q,e,hq⟩:=Zpj hs
 refine⟨B,rfl,f,hs,okF,okS,frS,conS,rpS,Zqq f.ob hs okS (f.len▸Nat.le_succ_of_le hs.f.2.2.1) f.cl (λs h=>(f.st s h).1) f.sl (λe=>f.sne (List.append_eq_nil_iff.mp e).1),?_,⟨q,e,?_⟩,Zig f.ob.oa f.nsm⟩
 .rcases hk with h|⟨h1,h2,h3⟩
  .exact .inl h
  .rw[<- f.len]at h2
   exact .inr ⟨h1,⟨q,e⟩,(Zes f.ob.oa).mp (Yn.mp h2)⟩
 .rcases hk with h|⟨h1,h2,h3⟩
  .exact .inl h
  .rw[e,List.length_cons]at h3
   exact .inr ⟨h1,List.eq_nil_of_length_eq_zero (Nat.succ.inj h3)⟩
theorem Set_.z(s:Set_ B S A L sk):0∈S.starts:=by
 obtain⟨q,e,_⟩:=s.st
 rw[e];exact .head _
theorem Set_.hs(s:Set_ B S A L sk):HS S sk:=by
 obtain⟨q,e,z|⟨z,_⟩⟩:=s.st
 .exact .inl z
 .exact .inr ⟨z,q,e⟩
theorem Set_.bs(s:Set_ B S A L sk):Bs B S (11+A.length) sk:=⟨s.okF,s.okS,s.okJ,s.f.ob.oa,s.f.nsm,by rw[s.f.len];exact List.length_pos_iff.mpr s.sc.f.2.1,s.hs,s.z,s.led⟩
theorem Set_.aq(s:Set_ B S A L sk):AQ Rp (jn B S sk):=ZSz s.f.rp λr hr _=>s.rpS r hr
theorem Set_.fp(s:Set_ B S A L sk){x:String×Nat×(Cd->Cd)}(hx:x∈Xm):x.2.2 (jn B S sk)=Zmf x (fzc B (11+A.length)) S sk/\Tl (Zmf x (fzc B (11+A.length)) S sk)/\(x.2.2 S).starts.length=S.starts.length:=by
 have e:=Zya hx s.bs s.f.tail (s.conS.nb rfl) (s.conS.nl rfl)
 exact⟨e,by rw[<- e];exact Zms (s.okJ.pass hx) (s.aq.pass hx Zir),Zvl _ hx⟩
theorem Set_.ft(s:Set_ B S A L sk)(hc:Zmi A L):Cd.rounds 24 (jn B S sk)=Zvf (fzc B (11+A.length)) S sk/\Tl (Zvf (fzc B (11+A.length)) S sk):=by
 have r3:R3 (fzc B (11+A.length)) S (jn B S sk) (11+A.length) sk:=.inl ⟨true,B,⟨s.okF,nofun,s.okS,s.okJ,s.f.ob.oa,s.f.nsm,s.st,Zpk s.sc s.f hc,nofun⟩,rfl,rfl⟩
 have e:=(r3.rounds 24).tidy
 exact⟨e,by rw[<- e];exact Zms (s.okJ.rounds 24) (s.aq.rounds Zir 24)⟩
theorem Zhg(f:Fsu B A hB)(hF:(fzc B ℓ).rows.length=A.length+1):(Yw (fzc B ℓ) (A++[Yd])).take A.length=dl B.rows.length B.live (hgt (A++[Yd])):=by
 unfold Yw
 rw[ZGe (hF▸Nat.le_succ _),<- f.len]
 unfold dl
 refine List.map_congr_left λi hi=>?_
 rw[ZEi f.ob.oa (List.mem_range.mp hi)]
theorem Set_.fj(s:Set_ B S A L sk):∃h,Hc (jn B S sk) h/\¬Low (jn B S sk) h/\dl (jn B S sk).rows.length (jn B S sk).live h=(Yw (fzc B (11+A.length)) (A++[Yd])).take A.length++Yw S L:=by
 refine⟨hj B.rows.length (hgt (A++[Yd])) (hgt L),ZFg s.okJ s.f.ob.oa s.okS s.f.oc s.conS rfl s.f.frm s.frS s.f.cat rfl rfl λt ht=>?_,λhl=>?_,?_⟩
 .rcases List.mem_append.mp ht with z|z
  .obtain⟨z1,z2⟩:=s.f.st t z
   rw[Zut z1];exact z2
  .obtain⟨q,hq,rfl⟩:=List.mem_map.mp z
   rw[Nat.add_comm,Znk]
   exact s.conS.sta q (List.mem_of_mem_drop hq)
 .obtain⟨p,r,-,h1,h2⟩:=hl
  exact Nat.not_le_of_lt h2 (ZIk s.f.tk s.conS h1)
 .rw[Zhg s.f (by rw[Yb,s.f.len]),Qc]
  exact Zyc (λi hi=>Zcf s.f.ob.oa (.inl s.z) hi) λi _=>Zll s.f.ob.oa s.z s.led
theorem ZLs{U:Cd}(ok:Ok U):jn ⟨[],[],[]⟩ U 0=U:=by
 refine Cd.ext ((List.map_congr_left λr hr=>?_).trans (List.map_id _)) (List.map_id _) (List.map_id _)
 cases hj:r.op.isJ with
 |false=>exact Zhf hj
 |true=>
  show r.mv 0=r
  unfold Rw.mv Rw.re
  rw[if_pos hj]
  exact Rw.same (ok.jmp r hr hj).1
theorem Set_.dl100(s:Set_ B S A L sk):(Yw S L).length<=100:=by
 unfold Yw
 rw[Ug,s.sc.ss.len];exact Nat.le_trans s.sc.s.lay.len (by decide)
theorem Set_.alo(s:Set_ B S A L sk):ZTd (fzc B (11+A.length)) S (jn B S sk) A.length (Yw S L):=by
 have hbl:=s.f.len
 obtain⟨q,hq,-⟩:=Zpj s.sc
 obtain⟨D,hD⟩:∃D:Cd,D=⟨B.rows,B.catches,[]⟩:=⟨_,rfl⟩
 have e:Js (jn B S sk) S A.length=jn D S 0:=by
  subst hD
  refine Cd.ext rfl rfl ?_
  show S.starts.map _=(S.starts.drop 0).map _
  rw[List.drop_zero,<- hbl]
 have ob:Ob D:=hD▸⟨⟨s.f.ob.oa.jmp,s.f.ob.oa.cat,λs hs=>absurd hs List.not_mem_nil⟩,s.f.ob.pl,s.f.ob.cf⟩
 have nos:∀s,s ∉ D.starts:=hD▸λ_=>List.not_mem_nil
 have okA:Ok (jn D S 0):=Zqq ob s.sc s.okS (hD▸hbl▸Nat.le_succ_of_le s.sc.f.2.2.1) (hD▸s.f.cl) (λt h=>absurd h (nos t)) (hD▸Nat.zero_le _) (by rw[List.drop_zero,hq];exactλe=>List.cons_ne_nil _ _ (List.append_eq_nil_iff.mp e).2)
 have lv:∀i,D.live i=false:=λi=>by
  rw[Bool.eq_false_iff]
  intro h
  have nor:∀{x},¬Reach D x:=λhx=>by
   induction hx with
   |start h=>exact nos _ h
   |step _ _ ih=>exact ih
  exact nor (Yn.mp h)
 have und:(jn D S 0).undead=S.undead:=by
  have hk:∀l:List (Rw×Nat),(l.map λx=>if D.live x.2 then some x.1 else none).filterMap id=[]:=λl=>List.filterMap_eq_nil_iff.mpr λa ha=>(List.mem_map.mp ha).elim λx h=>h.2▸if_neg (by rw[lv];exact Bool.false_ne_true)
  have hp:∀i,plc (D.rows.zipIdx.map λx=>if D.live x.2 then some x.1 else none) i=0:=λi=>by
   unfold plc
   rw[<- List.map_take,hk];rfl
  have hz:D.undead=⟨[],[],[]⟩:=by
   refine Cd.ext ?_ (List.filterMap_eq_nil_iff.mpr λk _=>?_) (hD▸rfl)
   .show((D.rows.zipIdx.map _).filterMap id).map _=[]
    rw[hk];rfl
   .unfold Ct.re
    rw[hp,hp,if_neg (Nat.lt_irrefl _)]
  rw[Yp ob.oa s.z (.inl rfl),hz,ZLs s.okS.undead]
 refine⟨by rw[Yb,hbl],⟨s.dl100,ZHs⟩,⟨hj D.rows.length (hgt (A++[Yd])) (hgt L),?_,?_,?_⟩,by rw[e];exact und,Zms s.okS.undead (AQ.undead λr hr _=>s.rpS r hr)⟩ <;> rw[e]
 .refine ZFg okA ob.oa s.okS (hD▸⟨s.f.oc.row,s.f.oc.cat,s.f.oc.top⟩) s.conS rfl (hD▸s.f.frm) s.frS (hD▸s.f.cat) rfl rfl λt ht=>?_
  rcases Uj ht with z|⟨q,hq,rfl⟩
  .exact absurd z (nos t)
  .rw[Nat.add_comm,Znk]
   exact s.conS.sta q (List.mem_of_mem_drop hq)
 .rintro ⟨p,r,-,h1,h2⟩
  exact Nat.not_le_of_lt h2 (ZIk (hD▸s.f.tk) s.conS h1)
 .rw[Qc,show A.length=D.rows.length from hD▸hbl.symm,show B.rows.length=D.rows.length from hD▸rfl,Zyc (m:=D.rows.length) (n:=S.rows.length) (g1:=λ_=>false) (g2:=S.live) (λi hi=>(Zcf ob.oa (.inl s.z) hi).trans (lv i)) λi _=>Zll ob.oa s.z (.inl rfl),<- Zzp]
  rfl
end
section
variable{B S F J c:Cd}{A L:List Ld}{sk p m n:Nat}{ℓ:Int}{h hB hS:Nat->Nat}{r:Rw}
structure Mid(m:Nat)(r q:Rw):Prop where
 mv:q.mv m=r
 tk:1<=q.op.tk
 jmp:q.op.isJ=true->q.a=nat q.t/\q.t<=1
 pl:q.pl
 frm:∀N,m+1 < N->r.frm N
theorem Zqz{o:Op}{a:MV}(hj:o.isJ=false)(tk:1<=o.tk)(hs:(o==.getl||o==.setl)=false)(pl:Jf a)(hf:ZBg (lts o) a .none):∃q,Mid m ⟨o,a,.none,9⟩ q:=
 ⟨_,Zhf hj,tk,λe=>absurd (hj.symm.trans e) Bool.false_ne_true,⟨pl,trivial⟩,λN _=>Zly (n:=0) (ZRz hj hf (nsl hs)) λe=>absurd (hj.symm.trans e) Bool.false_ne_true⟩
theorem ZLf:∀r∈ZOw m,∃q,Mid m r q:=
 fm (Zqz rfl (by decide) rfl trivial ⟨rfl,rfl⟩) (fm (Zqz rfl (by decide) rfl (sok _) ⟨.inl ⟨rfl,_,rfl⟩,rfl⟩) (fm
  ⟨⟨.jumpunless,nat 1,.none,9⟩,congrArg (λx=>(⟨.jumpunless,nat x,.none,9⟩:Rw)) (Nat.add_comm 1 m),by decide,λ_=>⟨rfl,Nat.le_refl _⟩,⟨trivial,trivial⟩,λN hN=>ZFq rfl hN rfl rfl⟩
  (fm (Zqz rfl (by decide) rfl trivial ⟨rfl,rfl⟩) (fm (Zqz rfl (by decide) rfl trivial ⟨rfl,rfl⟩) (fm (Zqz rfl (by decide) rfl trivial ⟨rfl,rfl⟩) fmN)))))
theorem Set_.ref(s:Set_ B S A L sk):ZTb (fzc B (11+A.length)) S A.length ((fzc B (11+A.length)).live A.length) (Yw (fzc B (11+A.length)) (A++[Yd])) (Yw S L):=by
 have hbl:=s.f.len
 have hfl:(fzc B (11+A.length)).rows.length=A.length+1:=by rw[Yb,hbl]
 have ll:(Yw (fzc B (11+A.length)) (A++[Yd])).length=A.length+1:=by unfold Yw;rw[Ug,hfl]
 refine⟨hfl,⟨ll▸Nat.le_succ _,ll▸Nat.le_trans (Nat.succ_le_succ s.sc.f.2.2.1) (by decide),ZHs⟩,⟨s.dl100,ZHs⟩,λr hr=>?_⟩
 rw[Zhg s.f hfl]
 obtain⟨q,mid⟩:=ZLf _ hr
 obtain⟨D,hD⟩:∃D,D=jn B ⟨[q],[],[0]⟩ 1:=⟨_,rfl⟩
 have pr:D.rows=B.rows++[r]:=by rw[hD,<- mid.mv,<- hbl];rfl
 have pc:D.catches=B.catches:=hD▸List.append_nil _
 have ps:D.starts=B.starts:=hD▸List.append_nil _
 have pl:D.rows.length=B.rows.length+1:=pr▸List.length_append
 have le:B.rows.length<=D.rows.length:=pl▸Nat.le_succ _
 have mem:∀{x},x∈D.rows->x∈B.rows\/x=r:=λh=>(List.mem_append.mp (pr▸h)).imp id List.mem_singleton.mp
 have at_D:∀{i x},i < B.rows.length->D.rows[i]?=some x->B.rows[i]?=some x:=λh e=>by rw[pr,List.getElem?_append_left h]at e;exact e
 have rJ:r.op.isJ=true->r.a=nat r.t/\r.t<=D.rows.length:=λhj=>by
  rw[<- mid.mv,Xa]at hj
  rw[pl,hbl,Nat.add_comm,<- mid.mv,ZKz hj,Zoh hj]
  exact⟨rfl,Nat.add_le_add_right (mid.jmp hj).2 _⟩
 have obD:Ob D:=by
  refine⟨⟨λx hx hj=>?_,λk hk=>?_,λt ht=>Nat.le_trans (s.f.ob.oa.sta t (ps▸ht)) le⟩,λx hx=>?_,λk hk=>s.f.ob.cf k (pc▸hk)⟩
  .rcases mem hx with z|rfl
   .exact(s.f.ob.oa.jmp x z hj).imp id λh=>Nat.le_trans h le
   .exact rJ hj
  .obtain⟨g1,g2,g3⟩:=s.f.ob.oa.cat k (pc▸hk)
   exact⟨Nat.le_trans g1 le,Nat.le_trans g2 le,Nat.le_trans g3 le⟩
  .rcases mem hx with z|rfl
   .exact s.f.ob.pl x z
   .rw[<- mid.mv];exact ZKx mid.pl
 have hp1:∀{i},i<=B.rows.length->hj B.rows.length (hgt (A++[Yd])) (λ_=>0) i=hgt (A++[Yd]) i:=λh=>ZFf h s.f.oc.top rfl
 have hp2:∀i,hj B.rows.length (hgt (A++[Yd])) (λ_=>0) (B.rows.length+i)=0:=λ_=>Znk
 have ocD:OC D (hj B.rows.length (hgt (A++[Yd])) λ_=>0):=by
  refine⟨λi x e ht=>?_,λk hk=>?_,pl▸hp2 1⟩
  .by_cases h:i < B.rows.length
   .have e:=at_D h e
    rw[hp1 (Nat.le_of_lt h)]at ht⊢
    obtain⟨g1,g2⟩:=s.f.oc.row i x e ht
    exact⟨λj=>by rw[hp1 (s.f.ob.oa.jmp x (List.mem_of_getElem? e) j).2];exact g1 j,λj=>by rw[hp1 h];exact g2 j⟩
   .obtain⟨j,rfl⟩:=Nat.exists_eq_add_of_le (Nat.le_of_not_lt h)
    rw[pr,List.getElem?_append_right (Nat.le_add_right _ _)]at e
    rw[hp2,List.mem_singleton.mp (List.mem_of_getElem? e),<- mid.mv,Xa]at ht
    exact absurd (Nat.le_trans mid.tk ht) (Nat.not_succ_le_zero 0)
  .obtain⟨g1,g2,g3,g4⟩:=s.f.oc.cat k (pc▸hk)
   rw[hp1 (Nat.le_of_lt g2)]
   exact⟨g1,Nat.lt_of_lt_of_le g2 le,Nat.le_trans g3 le,λi i1 i2=>by rw[hp1 (Nat.le_of_lt (Nat.lt_of_lt_of_le i2 g3))];exact g4 i i1 i2⟩
 have e:Zzq (fzc B (11+A.length)) S A.length r=jn D S 0:=by
  refine Cd.ext ?_ ?_ ?_
  .show(B.rows++_).take A.length++[r]++S.rows.map _=D.rows++S.rows.map _
   rw[<- hbl,List.take_left,pl,pr]
  .show(B.catches++[])++S.catches.map _=D.catches++S.catches.map _
   rw[List.append_nil,pc,pl,hbl]
  .show(B.starts++[])++S.starts.map _=D.starts++(S.starts.drop 0).map _
   rw[List.append_nil,ps,pl,hbl,List.drop_zero]
 have okR:Ok (jn D S 0):=Zqq obD s.sc s.okS (pl▸hbl▸Nat.succ_le_succ s.sc.f.2.2.1) (pc▸s.f.cl) (λt h=>Nat.lt_of_lt_of_le (s.f.st t (ps▸h)).1 le) (ps▸s.f.sl) λe=>s.f.sne (ps▸(List.append_eq_nil_iff.mp e).1)
 have hc:Hc (jn D S 0) (hj D.rows.length (hj B.rows.length (hgt (A++[Yd])) λ_=>0) (hgt L)):=by
  refine ZFg okR obD.oa s.okS ocD s.conS rfl (λx hx=>?_) s.frS (λk hk=>s.f.cat k (pc▸hk)) rfl rfl λt ht=>?_
  .rcases mem hx with z|rfl
   .exact Zly (s.f.frm x z) λj=>(s.f.ob.oa.jmp x z j).imp id λh=>Nat.lt_succ_of_le (Nat.le_trans h le)
   .exact mid.frm _ (by rw[pl,hbl];exact Nat.lt_succ_self _)
  .rcases Uj ht with z|⟨q,hq,rfl⟩
   .obtain⟨z1,z2⟩:=s.f.st t (ps▸z)
    rw[Zut (Nat.lt_of_lt_of_le z1 le),hp1 (Nat.le_of_lt z1)];exact z2
   .rw[Nat.add_comm,Znk]
    exact s.conS.sta q (List.mem_of_mem_drop hq)
 have lt:B.rows.length < D.rows.length:=pl▸Nat.lt_succ_self _
 rw[e]
 refine⟨_,hc,λled=>?_,λled=>?_⟩
 .refine⟨B.rows.length,r,Zbn obD.oa (hD▸Zbn s.f.ob.oa ((Zes s.f.ob.oa).mp (Yn.mp (hbl▸led)))),by rw[Yl lt,pr];exact List.getElem?_concat_length,?_⟩
  rw[Zut lt,show hj B.rows.length (hgt (A++[Yd])) (λ_=>0) B.rows.length=0 from hp2 0,<- mid.mv,Xa]
  exact mid.tk
 .have hnr:¬Reach B B.rows.length:=λhr=>by
   have z:=Yn.mpr ((Zes (ℓ:=11+A.length) s.f.ob.oa).mpr hr)
   rw[hbl,led]at z;cases z
  have cut:∀{x},Reach D x->x < B.rows.length:=λhx=>(Zgu s.f.ob.oa (S:=⟨[q],[],[0]⟩) rfl hnr (hD▸hx)).1
  refine⟨?_,?_⟩
  .rintro ⟨p,x,hp,h1,h2⟩
   rcases Zit obD.oa (.inl s.z) hp with⟨h3,h4⟩|⟨i,rfl,h4⟩
   .rw[Yl h3]at h1
    rw[Zut h3,hp1 (Nat.le_of_lt (cut h4))]at h2
    exact Nat.not_le_of_lt h2 (s.f.tk p x (at_D (cut h4) h1))
   .rw[Zaf]at h1
    obtain⟨y,h5,rfl⟩:=Option.map_eq_some_iff.mp h1
    rw[Xa,Znk]at h2
    exact Nat.not_le_of_lt h2 (s.conS.row i y h5).1
  .rw[Qc,Zyc (m:=D.rows.length) (n:=S.rows.length) (g1:=D.live) (g2:=S.live) (λi hi=>Zcf obD.oa (.inl s.z) hi) λi _=>Zll obD.oa s.z (.inl rfl),pl,
    Zyc (m:=B.rows.length) (n:=1) (g1:=B.live) (g2:=λ_=>false) (λi hi=>hD▸Zcf s.f.ob.oa (.inr hnr) hi) λi _=>?_]
   .rfl
   .rw[Bool.eq_false_iff]
    exactλh=>absurd (cut (Yn.mp h)) (Nat.not_lt_of_le (Nat.le_add_right _ _))
theorem ZSe(hs:Scn F S A L)(hk:ZHv F S A sk):Zof F S A L sk:=by
 obtain⟨B,rfl,s⟩:=ZJd hs hk
 have eb:=s.bdy
 refine⟨by rw[eb];exact s.okJ,Zms s.okF λr hr _=>hs.first.2.2.2 r hr,Zms s.okS λr hr _=>s.rpS r hr,by rw[eb];exact Zms s.okJ s.aq,by rw[eb];exact s.fj,by rw[eb];exactλx hx=>s.fp hx,?_,by rw[eb];exact s.ft,Zmv 24,s.ref,by rw[eb];exact s.alo⟩
 rw[Xk s.bs,Zig (Zzx s.bs) (Zue rfl s.f.nsm),Xc,Yb]
 exact Nat.le_refl _
theorem Zwn(is:List Int):Ret 13 735 [.f (.lst (is.map .int))] (.f (.bool true)) [none]:=ZEd (λ_ _ _ _ hs=>each hs) (λ_ _ _ _ hs _ hk=>ZSe hs hk) is
end
section
open PySem.Calls
theorem ZEb{K:Frag}{h:Heap}{a:Addr}{mg:Str->Option Value}(X:K.In h)(g:h.Ns a mg){x:Str}{r:Option Value}(e:nsIn K a x=some r):mg x=r:=by
 obtain⟨o,es,ep,h1,h2,_,h4⟩:=g
 unfold nsIn at e
 split at e
 .rename_i hl
  have:=X _ _ hl
  rw[h1]at this
  cases this
  cases h2
  rw[<- h4 x]
  unfold nsFind findBy
  rw[<- List.find?_toArray]at e
  simp only[Array.toArray_toList]at e
  split at e
  .rename_i hf
   cases e
   have:(λe:DictEntry=>e.key.isStr x)=(λe=>Value.isStr e.key x):=rfl
   rw[hf];rfl
  .rename_i hf
   split at e
   .cases e
   .cases e;rw[hf];rfl
 .cases e
noncomputable def ZOe{α:Type}:List (Option α)->Option (List α)
 | []=>some []
 |o::r=>o.bind λa=>(ZOe r).map (a::·)
noncomputable def tOf(c:Value)(l:List MV):Option MV:=bif c==.type "tuple" then some (.tup l)else bif c==.type "list" then some (.lst l)else none
noncomputable def rdE(f:Value->Option MV)(e:DictEntry):Option (MV×MV):=match e.key with
 | .str x _=>(f e.val).map (MV.str x,·)
 |_=>none
noncomputable def rdO(f:Value->Option MV)(a:Addr)(o:Obj):Option MV:=match o.data with
 | .seq vs _=>(ZOe (vs.toList.map f)).bind λl=>bif o.dict.isNone&&o.slots.isEmpty&&decide (l.length<=Zb)then tOf o.cls l else none
 | .dict es _=>bif (a==239||a==304)&&(o.dict.isNone&&o.slots.isEmpty&&o.cls==.type "dict")then(ZOe (es.toList.map (rdE f))).map .dct else none
 |_=>some (.con (.ref a))
noncomputable def rdV(K:Frag):Nat->Value->Option MV
 |0,_=>none
 |n+1,v=>match v with
  | .none=>some .none
  | .int i _=>some (.int i)
  | .str s _=>some (.str s)
  | .ref a=>(K.lookup a).bind (rdO (rdV K n) a)
  | .type t=>some (.con (.type t))
  |_=>none
noncomputable def Zmq(P:Params)(es:List DictEntry):Prop:=∀e∈es,∀x t,e.key=.str x t->e.hash=PyData.keyHash P x
section
variable{P:Px}{Z:Zf}{f:Value->Option MV}{a:Addr}{o:Obj}{m:MV}
theorem Zkb(hf:∀v m,f v=some m->RepF P Z m v):∀{vs:List Value} {l:List MV},ZOe (vs.map f)=some l->RepFs P Z l vs
 | [],_,h=>Option.some.inj h▸rfl
 |v::r,l,h=>Zh h λm h1 h=>Zp h λq h2 e=>e▸⟨v,r,rfl,hf v m h1,Zkb hf h2⟩
theorem ZHc(hf:∀v m,f v=some m->RepF P Z m v){es:List DictEntry}:∀{l:List (MV×MV)},Zmq P.params es->ZOe (es.map (rdE f))=some l->RepK P Z l es:=by
 induction es with
 |nil=>exactλ_ h=>Option.some.inj h▸rfl
 |cons e r ih=>
  refineλhh h=>Zh h λp h1 h=>Zp h λq h2 z=>?_
  unfold rdE at h1
  cases hk:e.key with
  |str x t=>
   rw[hk]at h1
   exact Zp h1 λm h3 y=>z▸y▸⟨e,r,x,rfl,rfl,⟨⟨t,hk⟩,hh e List.mem_cons_self _ _ hk⟩,hf _ _ h3,ih (λe he=>hh e (List.mem_cons_of_mem _ he)) h2⟩
  |_=>rw[hk]at h1;exact ns h1
theorem ZJr(hf:∀v m,f v=some m->RepF P Z m v)(hZ:Z a=some o)(H:(a==239||a==304)=true->∀es n,o.data=.dict es n->Zmq P.params es.toList)(h:rdO f a o=some m):RepF P Z m (.ref a):=by
 obtain⟨c,d,x,s⟩:=o
 have bare:∀{x:Data},(d.isNone&&s.isEmpty)=true->(⟨c,d,x,s⟩:Obj)={cls:=c,data:=x}:=λh=>by
  obtain⟨h1,h2⟩:=(Bool.and_eq_true _ _).mp h
  rw[Option.isNone_iff_eq_none.mp h1,Array.isEmpty_iff.mp h2]
 cases x with
 |seq vs n=>
  exact Zh h λl h1 h=>by
   obtain⟨h2,h3⟩:=Zct h
   obtain⟨h2,h4⟩:=(Bool.and_eq_true _ _).mp h2
   rw[bare h2]at hZ
   unfold tOf at h3
   cases q:c==.type "tuple" with
   |true=>
    rw[q]at h3
    rw[eq_of_beq q]at hZ
    exact Option.some.inj h3▸⟨a,vs.toList,n,rfl,hZ,Zkb hf h1,of_decide_eq_true h4⟩
   |false=>
    rw[q]at h3
    obtain⟨h5,h6⟩:=Zct h3
    rw[show c=_ from eq_of_beq h5]at hZ
    exact Option.some.inj h6▸⟨a,vs.toList,n,rfl,hZ,Zkb hf h1,of_decide_eq_true h4⟩
 |dict es n=>
  obtain⟨h1,h2⟩:=Zct h
  obtain⟨h1,h3⟩:=(Bool.and_eq_true _ _).mp h1
  obtain⟨h3,h4⟩:=(Bool.and_eq_true _ _).mp h3
  rw[bare h3,show c=_ from eq_of_beq h4]at hZ
  exact Zp h2 λl h2 e=>e▸⟨a,es.toList,n,rfl,((Bool.or_eq_true _ _).mp h1).elim (λq=>(show a=239 from eq_of_beq q)▸rfl) (λq=>(show a=304 from eq_of_beq q)▸rfl),hZ,ZHc hf (H h1 es n rfl) h2⟩
 |_=>exact Option.some.inj h▸⟨rfl,rfl⟩
theorem Zzs{K:Frag}(X:∀a o,K.lookup a=some o->Z a=some o)(H:∀a o es n,(a==239||a==304)=true->K.lookup a=some o->o.data=.dict es n->Zmq P.params es.toList):∀(n:Nat) (v:Value) (m:MV),rdV K n v=some m->RepF P Z m v
 |0,_,_,h=>ns h
 |n+1,v,m,h=>by
  cases v with
  |none=>exact Option.some.inj h▸rfl
  |int i t=>exact Option.some.inj h▸⟨t,rfl⟩
  |str s t=>exact Option.some.inj h▸⟨t,rfl⟩
  |ref a=>exact Zh h λo h1 h=>ZJr (Zzs X H n) (X a o h1) (λh2 es k=>H a o es k h2 h1) h
  |type t=>exact Option.some.inj h▸⟨rfl,rfl⟩
  |_=>exact ns h
end
theorem Zsf{P:Params}{es:List DictEntry}(h:es.map (·.hash)=es.map λe=>match e.key with| .str x _=>PyData.keyHash P x|_=>e.hash):Zmq P es:=λe he x t hk=>by
 have:=List.map_inj_left.mp h e he
 rw[hk]at this;exact this
noncomputable def Zjm(K:Frag)(x:Str):Option MV×Bool:=match nsIn K 3 x with
 |some (some v)=>(rdV K 4 v,true)
 |some none=>((bootBuiltins x).bind λv=>bif handedIn v then some (.con v)else none,x != ("__name__":Str))
 |none=>(none,false)
theorem Zwy(P:Params):Xw.map (λp=>Zjm (K P) p.1)=Xw.map (λp=>(some p.2,true)):=by
 refine Zs ?_
 k_slotget
theorem ZFi(P:Params):∃es n,(K P).lookup 239=some ⟨.type "dict",none,.dict es n,#[]⟩/\es.toList.map (·.hash)=es.toList.map λe=>match e.key with| .str x _=>PyData.keyHash P x|_=>e.hash:=⟨(KP.d239 (PyData.keyHash P)).toArray,65,by refine Zs ?_;k_slotget,by refine Zs ?_;k_slotget⟩
theorem ZFh(P:Params):∃es n,(K P).lookup 304=some ⟨.type "dict",none,.dict es n,#[]⟩/\es.toList.map (·.hash)=es.toList.map λe=>match e.key with| .str x _=>PyData.keyHash P x|_=>e.hash:=⟨(KP.d304 (PyData.keyHash P)).toArray,45,by refine Zs ?_;k_slotget,by refine Zs ?_;k_slotget⟩
end
section
open PySem.Calls
noncomputable def Zax(K:Frag)(a:Addr):FuncData:=match(K.lookup a).map Obj.data with
 |some (.func fd)=>fd
 |_=>default
noncomputable def ZMe:Fn:=Zy (mD 2 0) [] []
noncomputable def fnA:List (Nat×Fn):=(36,ZMe)::fnT
noncomputable abbrev FnP(fn:Fn):Prop:=fn.params.Nodup/\(∀x∈fn.params,fn.names.lookup x=some .local\/fn.names.lookup x=some .cell)/\(fn.dflts.isEmpty=true\/∀p∈fn.pols,p≠.lend)/\((cellsFrom 0 fn.names []).map (·.1)).Nodup/\(∀p∈fn.names,(p.1==("__debug__":Str))=false/\(p.1==("__classdict__":Str))=false)/\fn.params.length<=9
noncomputable def ZXj(K:Frag)(p:Nat×Fn):=(K.lookup p.1,(Zax K p.1).body,(Zax K p.1).closure,(Zax K p.1).scope.names,(Zax K p.1).scope.kind,(Zax K p.1).scope.isCoroutine,(Zax K p.1).scope.isGenerator,(Zax K p.1).globals,(Zax K p.1).builtins,codeIn K (Zax K p.1).code (Zax K p.1).qualname,decide (FnP p.2))
noncomputable def ZRw(K:Frag)(p:Nat×Fn):=(some (⟨.type "function",none,.func (Zax K p.1),#[]⟩:Obj),FuncBody.stmts p.2.body,([]:List (Str×Addr)),p.2.names,ScopeKind.function,false,false,mainGlobals,builtinsNs,true,true)
theorem Zsv(P:Params):fnA.map (ZXj (K P))=fnA.map (ZRw (K P)):=by
 refine Zs ?_
 k_slotget
noncomputable def fnP:List (Nat×Fn):=fnT.filter λp=>!(p.1==77)&&!(p.1==421)
theorem Zxm(P:Params)(v1 v2 v3 v4 v5 v6 v7 v8 v9:Value):fnP.map (λp=>(p.2.dflts.isEmpty,bindArgs (Zax (K P) p.1) ⟨[v1,v2,v3,v4,v5,v6,v7,v8,v9].take p.2.params.length,[]⟩))=fnP.map λp=>(true,pure (p.2.params.zip ([v1,v2,v3,v4,v5,v6,v7,v8,v9].take p.2.params.length))):=by
 refine Zs ?_
 k_slotget
end
section
open PySem.Calls
section
variable{c:Cx}{P:Params}{a:Addr}{fn:Fn}{s:Shared}{vs:List Value}
theorem Zxn(kin:(K P).In c.h₀)(hK:c.K=K P)(hm:(a,fn)∈fnA)
  (hb:∀(s:Shared) (vs:List Value),(∀b o,c.h₀.get? b=some o->s.heap.get? b=some o)->vs.length<=fn.params.length->fn.params.length - vs.length<=fn.dflts.length->∃ds,RepFs c.P c.h₀.get? (fn.dflts.drop (fn.dflts.length - (fn.params.length - vs.length))) ds/\BindsTo s (Zax (K P) a) ⟨vs,[]⟩ (fn.params.zip (vs++ds))):Zuo c a fn:=by
 have h:=List.map_inj_left.mp (Zsv P) _ hm
 have e:=congrArg (·.1) h
 have q:FnP fn:=of_decide_eq_true (congrArg (·.2.2.2.2.2.2.2.2.2.2) h)
 exact⟨⟨_,Zax (K P) a,kin a _ e,rfl,codeRec_of kin (congrArg (·.2.2.2.2.2.2.2.2.2.1) h),congrArg (·.2.1) h,congrArg (·.2.2.1) h,congrArg (·.2.2.2.1) h,congrArg (·.2.2.2.2.1) h,congrArg (·.2.2.2.2.2.1) h,congrArg (·.2.2.2.2.2.2.1) h,congrArg (·.2.2.2.2.2.2.2.1) h,congrArg (·.2.2.2.2.2.2.2.2.1) h,hb⟩,
  q.2.1,q.1,q.2.2.1.imp List.isEmpty_iff.mp id,q.2.2.2.1,by
   rw[hK];unfold keepIn;dsimp only;rw[show(K P).lookup a=_ from e];rfl,λx k hx=>q.2.2.2.2.1 _ (Zj hx)⟩
theorem ZOx(h:vs.length<=9):((List.range 9).map λi=>vs.getD i .none).take vs.length=vs:=List.ext_getElem (by rw[List.length_take,List.length_map,List.length_range];exact Nat.min_eq_left h) λi h1 h2=>by
 rw[List.getElem_take,List.getElem_map,List.getElem_range,List.getD_eq_getElem?_getD,List.getElem?_eq_getElem h2];rfl
theorem vec{n:Nat}(hl:vs.length<=n)(hd:n - vs.length<=0)(h9:n<=9):vs=((List.range 9).map λi=>vs.getD i .none).take n:=by
 have e:n=vs.length:=Nat.le_antisymm (Nat.sub_eq_zero_iff_le.mp (Nat.le_zero.mp hd)) hl
 rw[e,ZOx (e▸h9)]
theorem Zxk(kin:(K P).In c.h₀)(hK:c.K=K P)(hm:(a,fn)∈fnP):Zuo c a fn:=by
 have hA:(a,fn)∈fnA:=List.mem_cons_of_mem _ (List.mem_filter.mp hm).1
 have l9:fn.params.length<=9:=(of_decide_eq_true (congrArg (·.2.2.2.2.2.2.2.2.2.2) (List.map_inj_left.mp (Zsv P) _ hA)):FnP fn).2.2.2.2.2
 refine Zxn kin hK hA λs vs _ h1 h2=>⟨[],?_⟩
 have h:=List.map_inj_left.mp (Zxm P (vs.getD 0 .none) (vs.getD 1 .none) (vs.getD 2 .none) (vs.getD 3 .none) (vs.getD 4 .none) (vs.getD 5 .none) (vs.getD 6 .none) (vs.getD 7 .none) (vs.getD 8 .none)) _ hm
 have e:=List.isEmpty_iff.mp (congrArg (·.1) h)
 rw[show fn.dflts=[]from e]at h2⊢
 have el:fn.params.length=vs.length:=Nat.le_antisymm (Nat.sub_eq_zero_iff_le.mp (Nat.le_zero.mp h2)) h1
 have g:=congrArg (·.2) h
 refine⟨(by rw[List.drop_nil];exact rfl),.of_eq ?_⟩
 have p:=ZOx (el▸l9)
 have g:bindArgs (Zax (K P) a) ⟨((List.range 9).map λi=>vs.getD i .none).take fn.params.length,[]⟩=pure (fn.params.zip (((List.range 9).map λi=>vs.getD i .none).take fn.params.length)):=g
 rw[el,p]at g
 rw[List.append_nil];exact g
theorem Znt(P:Params):((Zax (K P) 77).defaults,(Zax (K P) 77).params,(Zax (K P) 36).defaults,(Zax (K P) 36).params,(Zax (K P) 421).defaults,(Zax (K P) 421).params)=(.ref 70,Zhy (mD 13 0),.ref 29,Zhy (mD 2 0),.ref 416,Zhy (tD 37)):=by
 refine Zs ?_
 k_slotget
noncomputable abbrev tpl(l:List Value):Option Obj:=some ⟨.type "tuple",none,.seq l.toArray 0,#[]⟩
theorem Zwg(P:Params):((K P).lookup 70,(K P).lookup 29,(K P).lookup 416,(K P).lookup 415)=(tpl [.none,.none,.none,.int 0 293],tpl [.str (Str.ofString "") 208],tpl [.ref 415],tpl []):=by
 refine Zs ?_
 k_slotget
theorem ZMj(kin:(K P).In c.h₀)(hK:c.K=K P)(hm:(77,fn)∈fnA)(e:fn=Zy (mD 13 0) fn.pols []):Zuo c 77 fn:=by
 have ho:=kin 70 _ (congrArg (·.1) (Zwg P))
 refine Zxn kin hK hm λs vs k0 hl hd=>?_
 have hf:=congrArg (·.1) (Znt P)
 have hp:=congrArg (·.2.1) (Znt P)
 have ea:fn.params=[("self":Str),("op":Str),("a":Str),("b":Str),("c":Str),("line":Str)]:=by rw[e];exact rfl
 have ed:fn.dflts=[]:=by rw[e];rfl
 rw[ed]at hd⊢
 rw[ea]at hl hd⊢
 generalize Zax (K P) 77=fd at hf hp
 obtain⟨v1,v2,v3,v4,v5,v6,hv⟩:∃v1 v2 v3 v4 v5 v6,vs=[v1,v2,v3,v4,v5,v6]:=⟨_,_,_,_,_,_,vec hl hd (by decide)⟩
 subst hv
 clear hl hd hm ea ed e
 obtain⟨n,q,pr,b,sc,gl,cl,df,kw,doc,pm,an,cd,ct,bi⟩:=fd
 dsimp only at hp hf
 subst hp hf
 exact⟨[],rfl,BindsTo.of_defaults rfl (k0 70 _ ho) rfl rfl rfl⟩
theorem ZMk(kin:(K P).In c.h₀)(hK:c.K=K P):Zuo c 36 ZMe:=by
 have ho:=kin 29 _ (congrArg (·.2.1) (Zwg P))
 refine Zxn kin hK List.mem_cons_self λs vs k0 hl hd=>?_
 have hf:=congrArg (·.2.2.1) (Znt P)
 have hp:=congrArg (·.2.2.2.1) (Znt P)
 have ea:ZMe.params=[("self":Str),("reason":Str)]:=rfl
 rw[show ZMe.dflts=[]from rfl]at hd⊢
 rw[ea]at hl hd⊢
 generalize Zax (K P) 36=fd at hf hp
 obtain⟨v1,v2,hv⟩:∃v1 v2,vs=[v1,v2]:=⟨_,_,vec hl hd (by decide)⟩
 subst hv
 clear hl hd ea
 obtain⟨n,q,pr,b,sc,gl,cl,df,kw,doc,pm,an,cd,ct,bi⟩:=fd
 dsimp only at hp hf
 subst hp hf
 exact⟨[],rfl,BindsTo.of_defaults rfl (k0 29 _ ho) rfl rfl rfl⟩
theorem Zxl(kin:(K P).In c.h₀)(hK:c.K=K P)(hm:(421,fn)∈fnA)(e:fn=Zy (tD 37) fn.pols [.tup []]):Zuo c 421 fn:=by
 have ho:=kin 416 _ (congrArg (·.2.2.1) (Zwg P))
 have h415:=kin 415 _ (congrArg (·.2.2.2) (Zwg P))
 refine Zxn kin hK hm λs vs k0 hl hd=>?_
 have hf:=congrArg (·.2.2.2.2.1) (Znt P)
 have hp:=congrArg (·.2.2.2.2.2) (Znt P)
 have ea:fn.params=[("code":Str),("outer":Str)]:=by rw[e];rfl
 have ed:fn.dflts=[.tup []]:=by rw[e];rfl
 rw[ed]at hd⊢
 rw[ea]at hl hd⊢
 generalize Zax (K P) 421=fd at hf hp
 obtain⟨n,q,pr,b,sc,gl,cl,df,kw,doc,pm,an,cd,ct,bi⟩:=fd
 dsimp only at hp hf
 subst hp hf
 clear hm ea ed e
 have two:vs.length=1\/vs.length=2:=(Nat.lt_or_eq_of_le hl).imp (λh=>Nat.le_antisymm (Nat.le_of_lt_succ h) (Nat.sub_le_iff_le_add.mp hd|>Nat.le_of_add_le_add_left)) id
 rcases two with h|h
 .obtain⟨v1,hv⟩:∃v1,vs=[v1]:=⟨_,(h▸ZOx (vs:=vs) (h▸by decide)).symm⟩
  subst hv
  exact⟨[.ref 415],⟨.ref 415,[],rfl,⟨415,[],0,rfl,h415,rfl,Nat.zero_le _⟩,rfl⟩,BindsTo.of_defaults rfl (k0 416 _ ho) rfl rfl rfl⟩
 .obtain⟨v1,v2,hv⟩:∃v1 v2,vs=[v1,v2]:=⟨_,_,(h▸ZOx (vs:=vs) (h▸by decide)).symm⟩
  subst hv
  exact⟨[],rfl,BindsTo.of_defaults rfl (k0 416 _ ho) rfl rfl rfl⟩
theorem ZFs(kin:(K P).In c.h₀)(hK:c.K=K P)(h:TT.fn a=some fn):Zuo c a fn:=by
 have hm:(a,fn)∈fnT:=Zj h
 by_cases h1:a=77
 .subst h1
  exact ZMj kin hK (List.mem_cons_of_mem _ hm) (by cases Option.some.inj h;rfl)
 by_cases h2:a=421
 .subst h2
  exact Zxl kin hK (List.mem_cons_of_mem _ hm) (by cases Option.some.inj h;rfl)
 exact Zxk kin hK (List.mem_filter.mpr ⟨hm,by rw[beq_eq_false_iff_ne.mpr h1,beq_eq_false_iff_ne.mpr h2];rfl⟩)
end
end
section
open PySem.Calls
theorem Zyl(P:Params):(Zwm.all λp=>(p.2.all λq=>plainGet (K P) p.1 q.1&&(findIn (K P) (.ref p.1) q.1==some (some (.ref q.2))&&isFn (K P) (.ref q.2)))&&(keepIn (K P) (.ref p.1)&&makesIn (K P) p.1))=true:=by
 refine Zs ?_
 k_slotget
theorem Zym(P:Params):(Zla.all λp=>p.2.all λx=>plainGet (K P) p.1 x&&(hasDictIn (K P) p.1&&(findIn (K P) (.ref p.1) x==some none&&(findIn (K P) (.ref p.1) "__setattr__"==some (some (.builtin "object.__setattr__"))&&(plainOver (K P) p.1&&takerIn (K P) p.1 x==some none)))))=true:=by
 refine Zs ?_
 k_slotget
theorem Ztz(P:Params):((K P).lookup 52,(clsIn (K P) 52).map λcd=>(cd.mro,cd.hasDict))=
  (some (excClassObj (Str.ofString "BadRows") (Str.ofString "BadRows") 52 51 [.ref 39] [.ref 39,.type "ValueError",.type "Exception",.type "BaseException",.type "object"] true [] [] false none none (some (.ref 43)) none (some (.str (Str.ofString "BadRows") 224)) (some (.str (Str.ofString "BadRows") 232)) (some (.bool true)) "ValueError.__new__"),
   some ([.ref 52,.ref 39,.type "ValueError",.type "Exception",.type "BaseException",.type "object"],true)):=by
 refine Zs ?_
 k_slotget
theorem ZGw(P:Params):(findIn (K P) (.ref 52) "__init__",typeIn (K P) (.ref 36),findCls (K P) (.type "ValueError") (.type "type") "__init__",findIn (K P) (.ref 52) "__setattr__",findIn (K P) (.ref 52) "reason",keepIn (K P) (.ref 52))=
  (some (some (.ref 36)),some (.type "function"),some (.val (.builtin "ValueError.__init__")),some (some (.builtin "object.__setattr__")),some none,true):=by
 refine Zs ?_
 k_slotget
theorem Zyy:∃p1 p2 p3 p4 p5 p6 p7 p8 p9 p10,Zju (mD 2 0)=[.Expr (.Call (.Attribute (.Name "ValueError" p1) "__init__" p2) [.Name "self" p3,.Name "reason" p4] [] p5) p6,.Assign [.Attribute (.Name "self" p7) "reason" p8] (.Name "reason" p9) p10]/\(p2.endLine==p5.line)=true:=⟨_,_,_,_,_,_,_,_,_,_,rfl,rfl⟩
section
variable{c:Cx}{P:Params}
theorem ZNp(kin:(K P).In c.h₀)(hK:c.K=K P)(hb:c.bad=52):ZOq c:=by
 have h:=ZGw P
 obtain⟨cd,e1,e2⟩:=Option.map_eq_some_iff.mp (congrArg (·.2) (Ztz P))
 refine⟨λa e=>hb▸eq_of_beq e,?_,rfl,⟨36,ZMe,?_,?_,ZMk kin hK,rfl,rfl,rfl,rfl,Zyy⟩,?_,?_,?_,?_⟩ <;> rw[hK] <;> try rw[hb]
 .exact⟨_,_,_,_,_,_,_,_,_,_,_,_,_,_,_,kin _ _ (congrArg (·.1) (Ztz P)),cd,e1,congrArg (·.1) e2,congrArg (·.2) e2⟩
 .exact congrArg (·.1) h
 .exact congrArg (·.2.1) h
 .exact congrArg (·.2.2.1) h
 .exact congrArg (·.2.2.2.1) h
 .exact congrArg (·.2.2.2.2.1) h
 .exact congrArg (·.2.2.2.2.2) h
theorem Zra{cl f:Nat}{x:Str}(h:TT.meth cl x=some f):(plainGet (K P) cl x=true/\(findIn (K P) (.ref cl) x==some (some (.ref f)))=true/\isFn (K P) (.ref f)=true)/\keepIn (K P) (.ref cl)=true/\makesIn (K P) cl=true:=by
 obtain⟨l,h1,h2⟩:=Option.bind_eq_some_iff.mp (show(Zwm.lookup cl).bind (λl=>l.lookup x)=some f from h)
 obtain⟨z1,z2⟩:=Xz (List.all_eq_true.mp (Zyl P) _ (Zj h1))
 obtain⟨z3,z4⟩:=Xz (List.all_eq_true.mp z1 _ (Zj h2))
 exact⟨⟨z3,Xz z4⟩,Xz z2⟩
theorem base(kin:(K c.w.params).In c.h₀)(hK:c.K=K c.w.params)(hb:c.bad=52)(hok:c.ok=λcl x=>TT.plain cl x=true){mg mb:Str->Option Value}(g:c.h₀.Ns mainGlobals mg)(b:c.h₀.Ns builtinsNs mb)(lim:c.h₀.NoLimit)(bi:∀x:Str,x≠"__name__"->mb x=bootBuiltins x):Base c:=by
 refine⟨hK▸kin,lim,⟨mg,mb,g,b,λx m e=>?_⟩,λcl x e=>?_,λcl x e=>by rw[hok];exact e,λa fn e=>ZFs kin hK e,λa i e1 e2=>?_,λcl a f e=>?_,ZNp kin hK hb⟩
 .have chk:Zjm (K c.w.params) x=(some m,true):=List.map_inj_left.mp (Zwy c.w.params) _ (Zj (show Xw.lookup x=some m from e))
  unfold Zjm at chk
  cases hn:nsIn (K c.w.params) 3 x with
  |none=>rw[hn]at chk;cases chk
  |some o=>
   rw[hn]at chk
   cases o with
   |some v=>exact⟨v,Zzs (P:=c.P) kin (λa o es n ha hl hd=>by
     rcases(Bool.or_eq_true _ _).mp ha with q|q
     .obtain⟨es',n',h1,h2⟩:=ZFi c.w.params
      rw[show a=239 from eq_of_beq q,h1]at hl
      rw[<- Option.some.inj hl]at hd
      cases hd;exact Zsf h2
     .obtain⟨es',n',h1,h2⟩:=ZFh c.w.params
      rw[show a=304 from eq_of_beq q,h1]at hl
      rw[<- Option.some.inj hl]at hd
      cases hd;exact Zsf h2) 4 v m (congrArg (·.1) chk),.inl (ZEb kin g hn)⟩
   |none=>exact Zh (congrArg (·.1) chk) λv h1 h2=>⟨v,Option.some.inj (Zct h2).2▸⟨rfl,(Zct h2).1⟩,.inr ⟨ZEb kin g hn,(bi x (λq=>by
     have:=congrArg (·.2) chk
     rw[q]at this;cases this)).trans h1⟩⟩
 .rw[hok]at e
  have e:(match Zla.lookup cl with|some l=>l.contains x|none=>false)=true:=e
  cases hl:Zla.lookup cl with
  |none=>rw[hl]at e;cases e
  |some l=>
   rw[hl]at e
   rw[hK]
   obtain⟨a1,h⟩:=Xz (List.all_eq_true.mp (List.all_eq_true.mp (Zym c.w.params) _ (Zj hl)) x (List.contains_iff_mem.mp e))
   obtain⟨a2,h⟩:=Xz h
   obtain⟨a3,h⟩:=Xz h
   obtain⟨a4,h⟩:=Xz h
   obtain⟨a5,a6⟩:=Xz h
   exact⟨a1,a2,eq_of_beq a3,eq_of_beq a4,a5,eq_of_beq a6⟩
 .have h:=Zra (P:=c.w.params) e2
  rw[<- hK]at h
  exact⟨h.2.1,h.2.2,eq_of_beq h.1.2.1,eq_of_beq h.1.2.2⟩
 .have h:=Zra (P:=c.w.params) e
  rw[<- hK]at h
  exact⟨h.1.1,eq_of_beq h.1.2.1,h.1.2.2⟩
end
end
section
open PySem.Calls
theorem ZFa{xs:List WData}(h:WShape.hasItems [] xs .int=true):∃is:List Int,xs=is.map .int:=by
 induction xs with
 |nil=>exact⟨[],rfl⟩
 |cons x r ih=>
  have h:=Xz h
  obtain⟨is,e⟩:=ih h.2
  cases x with
  |int i=>exact⟨i::is,congrArg _ e⟩
  |_=>cases h.1
theorem Zol{P:Params}{h:Heap}{Q:Px}{is:List Int}:∀{vs:List Value},WellAll P h vs (is.map .int)->RepFs Q h.get? (is.map .int) vs:=by
 induction is with
 |nil=>intro vs x;cases x;rfl
 |cons i r ih=>
  intro vs x
  cases x with
  |cons a b=>cases a;exact⟨_,_,rfl,⟨_,rfl⟩,ih b⟩
theorem ZHa{args:List WData}(h:WShape.hasAll [] args [.list .int]=true):∃is:List Int,args=[.list (is.map .int)]:=by
 cases args with
 |nil=>cases h
 |cons d r=>
  have h:=Xz h
  cases r with
  |nil=>
   cases d with
   |list xs=>
    have h1:(WShape.hasItems [] xs .int||false)=true:=h.1
    exact(ZFa ((Bool.or_false _).symm.trans h1)).imp λis e=>by rw[e]
   |_=>cases h.1
  |cons _ _=>cases h.2
theorem ZLl{is:List Int}(h:WTm.holds [] (.and (.not (.lt (.lit (.int 63)) (.len (.arg 0)))) (.lit (.bool true))) {args:=[.list (is.map .int)]}=true):is.length<=63:=by
 refine Nat.le_of_not_lt λg=>?_
 have v:WTm.value [] (.not (.lt (.lit (.int 63)) (.len (.arg 0)))) {args:=[.list (is.map .int)]}=some (.bool false):=
  congrArg (λb=>some (WData.bool (!b))) (decide_eq_true (Int.ofNat_lt.2 ((List.length_map (f:=WData.int) (as:=is)).symm▸g)):decide ((63:Int) < ((is.map WData.int).length:Int))=true)
 have v:WTm.value [] (.and (.not (.lt (.lit (.int 63)) (.len (.arg 0)))) (.lit (.bool true))) {args:=[.list (is.map .int)]}=some (.bool false):=by
  conv=>lhs;whnf
  rw[v]
 conv at h=>lhs;whnf
 rw[v]at h
 cases h
theorem law_walk:Zul:=by
 intro w s₀ s₁ mg mb G kin a o pm cd doc dV kV ho hdata hcd hdf hmg hgens args vals as hpre hlay hr hwell hsys
 have pre':(WShape.hasAll RW'.toRowW.records args RW'.toRowW.args&&RW'.toRowW.pre.holds RW'.toRowW.records {args:=args})=true:=hpre
 obtain⟨p1,p2⟩:=Xz pre'
 have p1':WShape.hasAll [] args [.list .int]=true:=p1
 obtain⟨is,e⟩:=ZHa p1'
 subst e
 have hlen:=ZLl p2
 let c:Cx:={prog:=RW'.toRowW.prog,w:=w,A:=callerA,env:=default,h₀:=s₁.heap,l:=[],ok:=λcl x=>TT.plain cl x=true,bad:=52,K:=K w.params,xs:=[],s1:=s₁,Z1:=λ_=>none,W1:=λ_=>none,fix:=true,pins:=λ_=>none,pn:=[]}
 have B:Base c:=base (c:=c) kin rfl rfl rfl G.T.g G.T.b G.T.nolimit (topRead_of G.T).builtins
 have R:ZHd c 13:=⟨rfl,rfl,(by decide:1+claimMargin+2*13+10 < recursionLimit),(by decide:4+20*13+100 < cLine)⟩
 have ha:a=735:=by
  have h1:nsIn (K w.params) 3 ("law":Str)=some (some (.ref 735)):=by
   refine Zs ?_
   k_slotget
  cases(ZEb kin G.T.g h1).symm.trans (show mg ("law":Str)=some (.ref a)from hmg);rfl
 subst ha
 cases hwell with
 |cons wa wb=>
 cases wb
 cases wa with
 | @list la vs xs hg hws=>
 have hl:is.length<=Zb:=Nat.le_trans hlen (by decide)
 refine wpAny_call (((Zwn is).h (N:=0) (E:=False) (K:=λv _=>v=.f (.bool true)) rfl).h c B R ⟨s₁,s₁.heap.get?,λ_=>none,λ_=>none,λ_=>none⟩ [.ref la] ⟨λ_ _ e=>e,λ_ _ e=>e,λ_ h=>absurd rfl h,λ_ h=>absurd h List.not_mem_nil,λ_ h=>absurd h List.not_mem_nil,hgens⟩ rfl (λj o h=>?_) _ (λo outs u w' hk S r _=>?_) λh=>h.elim)
 .match j,h with
  |0,h=>cases h;exact⟨_,rfl,la,vs,_,rfl,hg,Zol hws,by rw[List.length_map];exact hl⟩
 .subst hk
  obtain rfl:u=.bool true:=r
  exact⟨.inl ⟨_,.bool true,[],rfl,λ_=>rfl,.bool true,(by refine Zs ?_;k_slotget),λ_=>⟨List.nodup_nil,λ_ z=>absurd z List.not_mem_nil⟩⟩,.of_keep λb o e=>(S.kept b o e rfl).resolve_right λz=>absurd z.1 List.not_mem_nil,S.os,AllBare.of_eq (S.gens.trans hgens)⟩
end
end Mine
theorem PySem.Challenge.cw_tn0025_01_holds : PySem.Challenge.rw_tn0025_01.Holds :=
 Mine.holds_of fun said => Mine.row_holds said Mine.law_walk
