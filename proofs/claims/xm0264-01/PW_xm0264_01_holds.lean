import PyProof.Rows.All
import Wide.All
import OpenK.AllK
import Wide.FinOn
import Lean
import PySem.Challenge.RW_xm0264_01
set_option Elab.async false
set_option linter.constructorNameAsVariable false
set_option linter.unusedVariables false
set_option linter.unusedSimpArgs false
namespace Mine
section
open PySem PySem.W PyProof.Rows
section
open PySem
theorem cps{G:Prop}(h:∀P:Prop,(G->P)->P):G:=h G id
set_option genSizeOf false in
inductive V where
 |none
 |bool (b:Bool)
 |int (i:Int)
 |str (s:Str)
 |tup (xs:List V)
 |lst (xs:List V)
 |rng (n:Int)
 |w
 deriving Inhabited
structure W where
 given:List V
 at_:Int
 left:Int
 rows:List V
 fin:Bool
noncomputable abbrev M(α:Type):Type:=Option W->Option (α×Option W)
noncomputable def M.pure{α:Type}(a:α):M α:=λσ=>some (a,σ)
noncomputable def M.fail{α:Type}:M α:=λ_=>Option.none
noncomputable def M.bind{α β:Type}(m:M α)(f:α->M β):M β:=λσ=>match m σ with
 |some (a,σ')=>f a σ'
 |Option.none=>Option.none
noncomputable def M.lift{α:Type}(o:Option α):M α:=match o with
 |some a=>M.pure a
 |Option.none=>M.fail
noncomputable def lim:Nat:=1048576
noncomputable def big:Nat:=2^200
noncomputable def V.truth:V->Option Bool
 |.bool b=>some b
 |.int i=>some (i !=0)
 |_=>Option.none
mutual
noncomputable def V.beq:V->V->Bool
 |.none,.none=>true
 |.bool a,.bool b=>a==b
 |.bool a,.int b=>(if a then 1 else 0)==b
 |.int a,.bool b=>a==(if b then 1 else 0)
 |.int a,.int b=>a==b
 |.str a,.str b=>a==b
 |.tup a,.tup b=>V.beqs a b
 |.lst a,.lst b=>V.beqs a b
 |_,_=>false
noncomputable def V.beqs:List V->List V->Bool
 |[],[]=>true
 |a::r,b::q=>V.beq a b&&V.beqs r q
 |_,_=>false
end
mutual
noncomputable def V.plain:V->Bool
 |.tup xs=>V.plains xs
 |.lst xs=>V.plains xs
 |.rng _=>false
 |.w=>false
 |_=>true
noncomputable def V.plains:List V->Bool
 |[]=>true
 |x::r=>V.plain x&&V.plains r
end
mutual
noncomputable def V.depth:V->Nat
 |.tup xs=>V.depths xs+1
 |.lst xs=>V.depths xs+1
 |_=>0
noncomputable def V.depths:List V->Nat
 |[]=>0
 |x::r=>max (V.depth x) (V.depths r)
end
mutual
theorem beq_refl:∀v:V,v.plain=true->V.beq v v=true
 |.none,_=>rfl
 |.bool b,_=>beq_self_eq_true b
 |.int b,_=>beq_self_eq_true b
 |.str b,_=>beq_self_eq_true b
 |.tup xs,h=>beqs_refl xs h
 |.lst xs,h=>beqs_refl xs h
 |.rng _,h=>nomatch h
 |.w,h=>nomatch h
theorem beqs_refl:∀v:List V,V.plains v=true->V.beqs v v=true
 |[],_=>rfl
 |x::r,h=>have g:(x.plain&&V.plains r)=true:=h
  Bool.and_eq_true_iff.mpr ⟨beq_refl x (Bool.and_eq_true_iff.mp g).1,beqs_refl r (Bool.and_eq_true_iff.mp g).2⟩
end
theorem ite_some{α:Type}{c:Prop}[d:Decidable c]{x z:α}(h:(if c then some x else Option.none)=some z):c/\x=z:=by
 by_cases p:c
 ·exact⟨p,Option.some.inj ((if_pos p).symm.trans h)⟩
 ·exact nomatch (if_neg p).symm.trans h
noncomputable def mkTup(xs:List V):Option V:=if xs.length<=lim then some (.tup xs)else Option.none
noncomputable def mkLst(xs:List V):Option V:=if xs.length<=lim then some (.lst xs)else Option.none
noncomputable def on2{α:Type}(f:Int->Int->Option α)(x y:V):Option α:=match x with
 |.int a=>match y with
  |.int b=>f a b
  |_=>Option.none
 |_=>Option.none
theorem on2_i{α:Type}{f:Int->Int->Option α}{x y:V}{z:α}(h:on2 f x y=some z):∃a b,x=.int a/\y=.int b/\f a b=some z:=by
 unfold on2 at h
 cases x with
 |int a=>cases y with
  |int b=>exact⟨a,b,rfl,rfl,h⟩
  |_=>exact nomatch h
 |_=>exact nomatch h
noncomputable def bAdd(x y:V):Option V:=match x with
 |.int a=>match y with
  |.int b=>some (.int (a+b))
  |_=>Option.none
 |.str a=>match y with
  |.str b=>if a.length+b.length<=lim then some (.str (a++b))else Option.none
  |_=>Option.none
 |.tup a=>match y with
  |.tup b=>if a≠[]/\b≠[]then mkTup (a++b)else Option.none
  |_=>Option.none
 |.lst a=>match y with
  |.lst b=>mkLst (a++b)
  |_=>Option.none
 |_=>Option.none
noncomputable def bMul(x y:V):Option V:=match y with
 |.int n=>match x with
  |.int a=>if a.natAbs<big/\n.natAbs<big then some (.int (a*n))else Option.none
  |.lst a=>if a.length=1/\0<=n/\n<=lim then some (.lst (List.replicate n.toNat (a.headD .none)))else Option.none
  |_=>Option.none
 |_=>Option.none
noncomputable def binV(op:Operator)(x y:V):Option V:=match op with
 |.Add=>bAdd x y
 |.Sub=>on2 (λa b=>some (.int (a-b))) x y
 |.Mult=>bMul x y
 |.FloorDiv=>on2 (λa b=>if b≠0/\a.natAbs<big/\b.natAbs<big then some (.int (a.fdiv b))else Option.none) x y
 |.Mod=>on2 (λa b=>if b≠0 then some (.int (a.fmod b))else Option.none) x y
 |.Pow=>on2 (λa b=>if a=2/\0<=b/\b<=64 then some (.int (2^b.toNat))else Option.none) x y
 |.LShift=>on2 (λa b=>if a.natAbs<2^64/\0<=b/\b<=64 then some (.int (a*2^b.toNat))else Option.none) x y
 |.RShift=>on2 (λa b=>if 0<=b then some (.int (a.fdiv (2^b.toNat)))else Option.none) x y
 |.BitAnd=>on2 (λa b=>some (.int (Builtin.bitAnd a b))) x y
 |.BitOr=>on2 (λa b=>some (.int (Builtin.bitOr a b))) x y
 |.BitXor=>on2 (λa b=>some (.int (Builtin.bitXor a b))) x y
 |_=>Option.none
noncomputable def subL(xs:List V)(i:Int):Option V:=
 if 0<=i/\i<=lim then xs[i.toNat]? else if -(lim:Int)<=i/\i<0/\0<=i+xs.length then xs[(i+xs.length).toNat]? else Option.none
noncomputable def subV(x k:V):Option V:=match k with
 |.int i=>match x with
  |.tup xs=>subL xs i
  |.lst xs=>subL xs i
  |_=>Option.none
 |_=>Option.none
noncomputable def sliceL{α:Type}(xs:List α)(lo:Nat)(hi:Option Nat):List α:=match hi with
 |some h=>(xs.take h).drop lo
 |Option.none=>xs.drop lo
noncomputable def slcV(x:V)(lo:Int)(hi:Option Int):Option V:=match x with
 |.tup xs=>match hi with
  |some hi=>if 0<=lo/\0<=hi/\xs.length<=lim then some (.tup (sliceL xs lo.toNat (some hi.toNat)))else Option.none
  |Option.none=>if 0<=lo/\xs.length<=lim then some (.tup (sliceL xs lo.toNat Option.none))else Option.none
 |.lst xs=>match hi with
  |some hi=>if 0<=lo/\0<=hi/\xs.length<=lim then some (.lst (sliceL xs lo.toNat (some hi.toNat)))else Option.none
  |Option.none=>if 0<=lo/\xs.length<=lim then some (.lst (sliceL xs lo.toNat Option.none))else Option.none
 |_=>Option.none
noncomputable def cEq(a b:V):Option Bool:=if(a.plain&&b.plain)=true/\min a.depth b.depth<=500 then some (a.beq b)else Option.none
noncomputable def cNe(a b:V):Option Bool:=if(a.plain&&b.plain)=true/\min a.depth b.depth<=500 then some (!a.beq b)else Option.none
noncomputable def cIn(x y:V):Option Bool:=match y with
 |.tup ys=>if(x.plain&&V.plains ys)=true/\x.depth<=500 then some (ys.any λy=>y.beq x)else Option.none
 |.lst ys=>if(x.plain&&V.plains ys)=true/\x.depth<=500 then some (ys.any λy=>y.beq x)else Option.none
 |_=>Option.none
noncomputable def cNi(x y:V):Option Bool:=match y with
 |.tup ys=>if(x.plain&&V.plains ys)=true/\x.depth<=500 then some (!ys.any λy=>y.beq x)else Option.none
 |.lst ys=>if(x.plain&&V.plains ys)=true/\x.depth<=500 then some (!ys.any λy=>y.beq x)else Option.none
 |_=>Option.none
noncomputable def isN:V->Bool
 |.none=>true
 |_=>false
noncomputable def cIs(t:Bool)(a b:V):Option Bool:=match b with
 |.none=>some (isN a==t)
 |_=>Option.none
noncomputable def cmpV(op:CmpOp)(a b:V):Option Bool:=match op with
 |.Eq=>cEq a b
 |.NotEq=>cNe a b
 |.Lt=>on2 (λa b=>some (decide (a<b))) a b
 |.LtE=>on2 (λa b=>some (decide (a<=b))) a b
 |.Gt=>on2 (λa b=>some (decide (b<a))) a b
 |.GtE=>on2 (λa b=>some (decide (b<=a))) a b
 |.In=>cIn a b
 |.NotIn=>cNi a b
 |.Is=>cIs true a b
 |.IsNot=>cIs false a b
inductive Bif where
 |len|tuple|abs|min|max|range
noncomputable def on1(f:V->Option V)(l:List V):Option V:=match l with
 |[]=>Option.none
 |x::r=>match r with
  |[]=>f x
  |_::_=>Option.none
noncomputable def fLen(x:V):Option V:=match x with
 |.tup xs=>if xs.length<=lim then some (.int xs.length)else Option.none
 |.lst xs=>if xs.length<=lim then some (.int xs.length)else Option.none
 |_=>Option.none
noncomputable def fTup(x:V):Option V:=match x with
 |.lst xs=>mkTup xs
 |.tup xs=>some (.tup xs)
 |_=>Option.none
noncomputable def fAbs(x:V):Option V:=match x with
 |.int i=>some (.int i.natAbs)
 |_=>Option.none
noncomputable def fRng(x:V):Option V:=match x with
 |.int n=>if n<=lim then some (.rng n)else Option.none
 |_=>Option.none
noncomputable def ints2(l:List V):Option (V×V):=match l with
 |[]=>Option.none
 |x::r=>match r with
  |[]=>match x with
   |.lst l=>match l with
    |[]=>Option.none
    |x::r=>match r with
     |[]=>Option.none
     |y::r=>match r with
      |[]=>some (x,y)
      |_::_=>Option.none
   |_=>Option.none
  |y::r=>match r with
   |[]=>some (x,y)
   |_::_=>Option.none
noncomputable def bifV(b:Bif)(l:List V):Option V:=match b with
 |.len=>on1 fLen l
 |.tuple=>on1 fTup l
 |.abs=>on1 fAbs l
 |.min=>match ints2 l with
  |some p=>on2 (λa b=>some (.int (if b<a then b else a))) p.1 p.2
  |Option.none=>Option.none
 |.max=>match ints2 l with
  |some p=>on2 (λa b=>some (.int (if a<b then b else a))) p.1 p.2
  |Option.none=>Option.none
 |.range=>on1 fRng l
noncomputable def isTupV(x:V):Option Bool:=match x with
 |.tup _=>some true
 |.none=>some false
 |.int _=>some false
 |.str _=>some false
 |_=>Option.none
noncomputable def strsOf:List V->Option (List Str)
 |[]=>some []
 |.str s::r=>match strsOf r with|some t=>some (s::t)|Option.none=>Option.none
 |_::_=>Option.none
noncomputable def joinV:V->Option V
 |.lst xs=>match strsOf xs with
  |some ys=>if(ys.map (·.length)).sum+ys.length<=1048576 then some (.str (Str.join Str.empty ys))else Option.none
  |Option.none=>Option.none
 |_=>Option.none
noncomputable def pickV:List V->List V->V->Option V
 |k::ks,v::vs,x=>if V.beq k x then some v else pickV ks vs x
 |_,_,_=>Option.none
noncomputable def allInt:List V->Bool
 |[]=>true
 |.int _::r=>allInt r
 |_::_=>false
noncomputable def allStr:List V->Bool
 |[]=>true
 |.str _::r=>allStr r
 |_::_=>false
noncomputable def noDup:List V->Bool
 |[]=>true
 |x::r=>(!r.any λy=>V.beq y x)&&noDup r
noncomputable def pickO(ks vs:List V)(x:V):Option V:=if((allInt ks&&allInt [x]||allStr ks&&allStr [x])&&noDup ks)=true then pickV ks vs x else Option.none
noncomputable def dictGet:List (Int×V)->Int->Option V
 |[],_=>Option.none
 |(k,v)::r,x=>if k=x then some v else dictGet r x
inductive Fld where
 |given|at_|left
noncomputable def W.get(w:W):Fld->V
 |.given=>.lst w.given
 |.at_=>.int w.at_
 |.left=>.int w.left
noncomputable def W.set(w:W)(f:Fld)(v:V):Option W:=match v with
 |.int i=>match f with
  |.given=>Option.none
  |.at_=>some {w with at_:=i}
  |.left=>some {w with left:=i}
 |_=>Option.none
section
set_option genSizeOf false
set_option genInjectivity false
mutual
inductive E where
 |none
 |bool (b:Bool)
 |int (i:Int)
 |str (s:Str)
 |loc (i:Nat)
 |glob (x:Str) (v:V)
 |bin (op:Operator) (a b:E)
 |neg (a:E)
 |not (a:E)
 |boo (isAnd:Bool) (es:Es)
 |cmp (op:CmpOp) (a b:E)
 |ite (t a b:E)
 |tup (es:Es)
 |lst (es:Es)
 |sub (a i:E)
 |subO (i:Nat) (e:E)
 |slcL (a lo:E)
 |slcH (a hi:E)
 |slcB (a lo hi:E)
 |pick (ps:Ps) (k:E)
 |dget (x:Str) (d:List (Int×V)) (k:E)
 |dgetD (x:Str) (d:List (Int×V)) (k dflt:E)
 |dnin (x:Str) (d:List (Int×V)) (k:E)
 |call (f:Nat) (es:Es)
 |bif (b:Bif) (es:Es)
 |isTup (a:E)
 |join (a:E)
 |wg (i:Nat) (f:Fld)
 |wlen (i:Nat)
 |comp (j:Nat) (elt iter:E) (conds:Es)
inductive Es where
 |nil
 |cons (e:E) (r:Es)
inductive Ps where
 |nil
 |cons (k v:E) (r:Ps)
end
end
inductive Slot where
 |none
 |val (v:V)
 |own (xs:List V)
 deriving Inhabited
noncomputable abbrev Env':=List Slot
noncomputable def getV(ρ:Env')(i:Nat):Option V:=match ρ[i]? with
 |some (.val v)=>some v
 |_=>Option.none
noncomputable def getO(ρ:Env')(i:Nat):Option (List V):=match ρ[i]? with
 |some (.own v)=>some v
 |_=>Option.none
noncomputable def itemsV:V->Option (List V)
 |.tup xs=>if xs.length<=lim then some xs else Option.none
 |.lst xs=>if xs.length<=lim then some xs else Option.none
 |.rng n=>if -(2^63)<=n then some ((List.range n.toNat).map λ(i:Nat)=>V.int i)else Option.none
 |_=>Option.none
noncomputable def negV(x:V):Option V:=match x with
 |.int i=>some (.int (-i))
 |_=>Option.none
noncomputable def slcLV(x l:V):Option V:=match l with
 |.int l=>slcV x l Option.none
 |_=>Option.none
noncomputable def slcHV(x h:V):Option V:=match h with
 |.int h=>slcV x 0 (some h)
 |_=>Option.none
noncomputable def slcBV(x l h:V):Option V:=match l with
 |.int l=>match h with
  |.int h=>slcV x l (some h)
  |_=>Option.none
 |_=>Option.none
noncomputable def dgetV(d:List (Int×V))(x:V):Option V:=match x with
 |.int i=>dictGet d i
 |_=>Option.none
noncomputable def dgetDV(d:List (Int×V))(x y:V):Option V:=match x with
 |.int i=>some ((dictGet d i).getD y)
 |_=>Option.none
noncomputable def dninV(d:List (Int×V))(x:V):Option Bool:=match x with
 |.int i=>some (dictGet d i).isNone
 |_=>Option.none
noncomputable def M.onW{α:Type}(x:V)(f:W->Option (α×W)):M α:=λσ=>match x with
 |.w=>match σ with
  |some w=>match f w with
   |some p=>some (p.1,some p.2)
   |Option.none=>Option.none
  |Option.none=>Option.none
 |_=>Option.none
noncomputable def wLen(w:W):Option (V×W):=if w.fin=false/\w.rows.length<=lim then some (.int w.rows.length,w)else Option.none
noncomputable def compL(cond:V->M Bool)(elt:V->M V):List V->M (List V)
 |[]=>M.pure []
 |x::r=>(cond x).bind λb=>if b then(elt x).bind λy=>(compL cond elt r).bind λys=>M.pure (y::ys)else compL cond elt r
variable(Φ:Nat->List V->M V)
mutual
noncomputable def evE(ρ:Env'):E->M V
 |.none=>M.pure .none
 |.bool b=>M.pure (.bool b)
 |.int i=>M.pure (.int i)
 |.str s=>M.pure (.str s)
 |.loc i=>M.lift (getV ρ i)
 |.glob _ v=>M.pure v
 |.bin op a b=>(evE ρ a).bind λx=>(evE ρ b).bind λy=>M.lift (binV op x y)
 |.neg a=>(evE ρ a).bind λx=>M.lift (negV x)
 |.not a=>(evE ρ a).bind λx=>(M.lift x.truth).bind λt=>M.pure (.bool (!t))
 |.boo isAnd es=>evB ρ isAnd es
 |.cmp op a b=>(evE ρ a).bind λx=>(evE ρ b).bind λy=>(M.lift (cmpV op x y)).bind λt=>M.pure (.bool t)
 |.ite t a b=>(evE ρ t).bind λx=>(M.lift x.truth).bind λc=>if c then evE ρ a else evE ρ b
 |.tup es=>(evs ρ es).bind λxs=>M.lift (mkTup xs)
 |.lst es=>(evs ρ es).bind λxs=>M.lift (mkLst xs)
 |.sub a i=>(evE ρ a).bind λx=>(evE ρ i).bind λk=>M.lift (subV x k)
 |.subO i e=>(M.lift (getO ρ i)).bind λxs=>(evE ρ e).bind λk=>M.lift (subV (.lst xs) k)
 |.slcL a lo=>(evE ρ a).bind λx=>(evE ρ lo).bind λl=>M.lift (slcLV x l)
 |.slcH a hi=>(evE ρ a).bind λx=>(evE ρ hi).bind λh=>M.lift (slcHV x h)
 |.slcB a lo hi=>(evE ρ a).bind λx=>(evE ρ lo).bind λl=>(evE ρ hi).bind λh=>M.lift (slcBV x l h)
 |.pick ps k=>(evP ρ ps).bind λkv=>(evE ρ k).bind λx=>M.lift (pickO kv.1 kv.2 x)
 |.dget _ d k=>(evE ρ k).bind λx=>M.lift (dgetV d x)
 |.dgetD _ d k dflt=>(evE ρ k).bind λx=>(evE ρ dflt).bind λy=>M.lift (dgetDV d x y)
 |.dnin _ d k=>(evE ρ k).bind λx=>(M.lift (dninV d x)).bind λt=>M.pure (.bool t)
 |.call f es=>(evs ρ es).bind λxs=>Φ f xs
 |.bif b es=>(evs ρ es).bind λxs=>M.lift (bifV b xs)
 |.isTup a=>(evE ρ a).bind λx=>(M.lift (isTupV x)).bind λb=>M.pure (.bool b)
 |.join a=>(evE ρ a).bind λx=>M.lift (joinV x)
 |.wg i f=>(M.lift (getV ρ i)).bind λx=>M.onW x λw=>some (w.get f,w)
 |.wlen i=>(M.lift (getV ρ i)).bind λx=>M.onW x wLen
 |.comp j elt iter conds=>(evE ρ iter).bind λx=>(M.lift (itemsV x)).bind λxs=>
   (compL (λv=>(evC (ρ.set j (.val v)) conds).bind λc=>(M.lift c.truth).bind M.pure) (λv=>evE (ρ.set j (.val v)) elt) xs).bind λys=>M.lift (mkLst ys)
noncomputable def evs(ρ:Env'):Es->M (List V)
 |.nil=>M.pure []
 |.cons e r=>(evE ρ e).bind λx=>(evs ρ r).bind λxs=>M.pure (x::xs)
noncomputable def evP(ρ:Env'):Ps->M (List V×List V)
 |.nil=>M.pure ([],[])
 |.cons k v ps=>(evE ρ k).bind λx=>(evE ρ v).bind λy=>(evP ρ ps).bind λr=>M.pure (x::r.1,y::r.2)
noncomputable def evB(ρ:Env')(isAnd:Bool):Es->M V
 |.nil=>M.fail
 |.cons e .nil=>evE ρ e
 |.cons e (.cons e' r)=>(evE ρ e).bind λx=>(M.lift x.truth).bind λt=>if t==isAnd then evB ρ isAnd (.cons e' r)else M.pure x
noncomputable def evC(ρ:Env'):Es->M V
 |.nil=>M.pure (.bool true)
 |.cons e .nil=>evE ρ e
 |.cons _ (.cons _ _)=>M.fail
end
section
set_option genSizeOf false
set_option genInjectivity false
mutual
inductive S where
 |asg (i:Nat) (e:E)
 |asgC (i:Nat) (j:Nat) (elt iter:E) (conds:Es)
 |cmpO (i:Nat) (j:Nat) (elt iter:E) (conds:Es)
 |newO (i:Nat)
 |lstO (i:Nat) (e:E)
 |frz (i:Nat)
 |unp (is:List Nat) (e:E)
 |aug (i:Nat) (op:Operator) (e:E)
 |setO (i:Nat) (k e:E)
 |appO (i:Nat) (e:E)
 |extO (i:Nat) (e:E)
 |wset (i:Nat) (f:Fld) (e:E)
 |wapp (i:Nat) (e:E)
 |frzR (j i:Nat)
 |newW (i:Nat) (g a l:E)
 |expr (e:E)
 |ifS (t:E) (a b:Ss)
 |forS (i:Nat) (e:E) (b:Ss)
 |for2 (i j:Nat) (e:E) (b:Ss)
 |ret (e:E)
 |raise
inductive Ss where
 |nil
 |cons (s:S) (r:Ss)
end
end
inductive Fl where
 |next
 |ret (v:V)
noncomputable def unpL:List Nat->List V->Env'->Option Env'
 |[],[],ρ=>some ρ
 |i::is,v::vs,ρ=>unpL is vs (ρ.set i (.val v))
 |_,_,_=>Option.none
noncomputable def setL(xs:List V)(i:Int)(v:V):Option (List V):=
 if 0<=i then(if i<xs.length then some (xs.set i.toNat v)else Option.none)
 else if 0<=i+xs.length then some (xs.set (i+xs.length).toNat v)else Option.none
noncomputable def loopL(body:V->Env'->M (Fl×Env')):List V->Env'->M (Fl×Env')
 |[],ρ=>M.pure (.next,ρ)
 |x::r,ρ=>(body x ρ).bind λp=>match p.1 with
  |.next=>loopL body r p.2
  |.ret v=>M.pure (.ret v,p.2)
noncomputable def unpV(is:List Nat)(v:V)(ρ:Env'):Option Env':=match v with
 |.tup xs=>unpL is xs ρ
 |_=>Option.none
noncomputable def lstV(v:V):Option (List V):=match v with
 |.lst xs=>some xs
 |_=>Option.none
noncomputable def tupO(v:V):Option (List V):=match v with
 |.tup xs=>if xs.length<=lim then some xs else Option.none
 |_=>Option.none
noncomputable def augV(op:Operator)(x y:V):Option V:=on2 (λa b=>binV op (.int a) (.int b)) x y
noncomputable def setV(xs:List V)(n v:V):Option (List V):=match n with
 |.int n=>setL xs n v
 |_=>Option.none
noncomputable def extV(xs:List V)(v:V):Option (List V):=match v with
 |.tup ys=>if xs.length+ys.length<=lim then some (xs++ys)else Option.none
 |_=>Option.none
noncomputable def appV(xs:List V)(v:V):Option (List V):=if xs.length<lim then some (xs++[v])else Option.none
noncomputable def pairV(v:V):Option (V×V):=match v with
 |.tup l=>match l with
  |[]=>Option.none
  |p::r=>match r with
   |[]=>Option.none
   |q::r=>match r with
    |[]=>some (p,q)
    |_::_=>Option.none
 |_=>Option.none
noncomputable def W.put(w:W)(f:Fld)(v:V):Option (Unit×W):=match w.set f v with
 |some w=>some ((),w)
 |Option.none=>Option.none
noncomputable def W.open(w:W):Option (Unit×W):=if w.fin=false then some ((),w)else Option.none
noncomputable def W.app(w:W)(v:V):Option (Unit×W):=if w.fin=false/\w.rows.length<lim then some ((),{w with rows:=w.rows++[v]})else Option.none
noncomputable def newV(g a l:V):Option W:=match g with
 |.lst gs=>on2 (λn k=>some {given:=gs,at_:=n,left:=k,rows:=[],fin:=false}) a l
 |_=>Option.none
noncomputable def M.new(o:Option W):M Unit:=λσ=>match σ with
 |some _=>Option.none
 |Option.none=>match o with
  |some w=>some ((),some w)
  |Option.none=>Option.none
variable(Φ:Nat->List V->M V)
mutual
noncomputable def evS(ρ:Env'):S->M (Fl×Env')
 |.asg i e=>(evE Φ ρ e).bind λv=>M.pure (.next,ρ.set i (.val v))
 |.asgC i j elt iter conds=>(evE Φ ρ (.comp j elt iter conds)).bind λv=>M.pure (.next,ρ.set i (.val v))
 |.cmpO i j elt iter conds=>(evE Φ ρ (.comp j elt iter conds)).bind λv=>(M.lift (lstV v)).bind λxs=>M.pure (.next,ρ.set i (.own xs))
 |.newO i=>M.pure (.next,ρ.set i (.own []))
 |.lstO i e=>(evE Φ ρ e).bind λv=>(M.lift (tupO v)).bind λxs=>M.pure (.next,ρ.set i (.own xs))
 |.frz i=>(M.lift (getO ρ i)).bind λxs=>M.pure (.next,ρ.set i (.val (.lst xs)))
 |.unp is e=>(evE Φ ρ e).bind λv=>(M.lift (unpV is v ρ)).bind λρ'=>M.pure (.next,ρ')
 |.aug i op e=>(M.lift (getV ρ i)).bind λx=>(evE Φ ρ e).bind λy=>(M.lift (augV op x y)).bind λz=>M.pure (.next,ρ.set i (.val z))
 |.setO i k e=>(evE Φ ρ e).bind λv=>(M.lift (getO ρ i)).bind λxs=>(evE Φ ρ k).bind λkv=>(M.lift (setV xs kv v)).bind λys=>M.pure (.next,ρ.set i (.own ys))
 |.appO i e=>(M.lift (getO ρ i)).bind λxs=>(evE Φ ρ e).bind λv=>(M.lift (appV xs v)).bind λys=>M.pure (.next,ρ.set i (.own ys))
 |.extO i e=>(M.lift (getO ρ i)).bind λxs=>(evE Φ ρ e).bind λv=>(M.lift (extV xs v)).bind λys=>M.pure (.next,ρ.set i (.own ys))
 |.wset i f e=>(evE Φ ρ e).bind λv=>(M.lift (getV ρ i)).bind λx=>(M.onW x λw=>w.put f v).bind λ_=>M.pure (.next,ρ)
 |.wapp i e=>(M.lift (getV ρ i)).bind λx=>(M.onW x W.open).bind λ_=>(evE Φ ρ e).bind λv=>(M.onW x λw=>w.app v).bind λ_=>M.pure (.next,ρ)
 |.frzR j i=>(M.lift (getV ρ i)).bind λx=>M.onW x λw=>some ((.next,ρ.set j (.val (.lst w.rows))),{w with fin:=true})
 |.newW i g a l=>(evE Φ ρ g).bind λgv=>(evE Φ ρ a).bind λav=>(evE Φ ρ l).bind λlv=>(M.new (newV gv av lv)).bind λ_=>M.pure (.next,ρ.set i (.val .w))
 |.expr e=>(evE Φ ρ e).bind λ_=>M.pure (.next,ρ)
 |.ifS t a b=>(evE Φ ρ t).bind λx=>(M.lift x.truth).bind λc=>if c then evSs ρ a else evSs ρ b
 |.forS i e b=>(evE Φ ρ e).bind λx=>(M.lift (itemsV x)).bind λxs=>loopL (λv ρ=>evSs (ρ.set i (.val v)) b) xs ρ
 |.for2 i j e b=>(evE Φ ρ e).bind λx=>(M.lift (itemsV x)).bind λxs=>loopL (λv ρ=>(M.lift (pairV v)).bind λp=>evSs ((ρ.set i (.val p.1)).set j (.val p.2)) b) xs ρ
 |.ret e=>(evE Φ ρ e).bind λv=>M.pure (.ret v,ρ)
 |.raise=>M.fail
noncomputable def evSs(ρ:Env'):Ss->M (Fl×Env')
 |.nil=>M.pure (.next,ρ)
 |.cons s r=>(evS ρ s).bind λp=>match p.1 with
  |.next=>evSs p.2 r
  |.ret v=>M.pure (.ret v,p.2)
end
structure Fn where
 name:Str
 np:Nat
 names:List Str
 body:Ss
noncomputable def run(fns:Nat->Option Fn):Nat->Nat->List V->M V
 |0,_,_=>M.fail
 |n+1,f,args=>match fns f with
  |some d=>if args.length=d.np then(evSs (run fns n) (args.map Slot.val++List.replicate (d.names.length-d.np) Slot.none) d.body).bind λp=>match p.1 with
    |.ret v=>M.pure v
    |.next=>M.pure .none
   else M.fail
  |Option.none=>M.fail
end
section
open PySem
set_option maxRecDepth 100000
noncomputable abbrev So:=Str.ofString
noncomputable abbrev Gl(s:String)(i:Int):E:=.glob (Str.ofString s) (.int i)
noncomputable abbrev Tx(s:String):E:=.str (Str.ofString s)
noncomputable abbrev sts(l:List String):List Str:=l.map Str.ofString
noncomputable abbrev L0:E:=.loc 0
noncomputable abbrev L1:E:=.loc 1
noncomputable abbrev L2:E:=.loc 2
noncomputable abbrev L3:E:=.loc 3
noncomputable abbrev L4:E:=.loc 4
noncomputable abbrev L5:E:=.loc 5
noncomputable abbrev L6:E:=.loc 6
noncomputable abbrev L7:E:=.loc 7
noncomputable abbrev L8:E:=.loc 8
noncomputable abbrev L9:E:=.loc 9
noncomputable abbrev L10:E:=.loc 10
noncomputable abbrev L11:E:=.loc 11
noncomputable abbrev L12:E:=.loc 12
noncomputable abbrev L13:E:=.loc 13
noncomputable abbrev L14:E:=.loc 14
noncomputable abbrev K1(x0:E):Es:=.cons x0 (.nil)
noncomputable abbrev K2(x0 x1:E):Es:=.cons x0 (.cons x1 (.nil))
noncomputable abbrev K3(x0 x1 x2:E):Es:=.cons x0 (.cons x1 (.cons x2 (.nil)))
noncomputable abbrev K4(x0 x1 x2 x3:E):Es:=.cons x0 (.cons x1 (.cons x2 (.cons x3 (.nil))))
noncomputable abbrev K5(x0 x1 x2 x3 x4:E):Es:=.cons x0 (.cons x1 (.cons x2 (.cons x3 (.cons x4 (.nil)))))
noncomputable abbrev K6(x0 x1 x2 x3 x4 x5:E):Es:=.cons x0 (.cons x1 (.cons x2 (.cons x3 (.cons x4 (.cons x5 (.nil))))))
noncomputable def dINT_RANGES:List (Int×V):=[(1,(.tup [.int 0,.int 255])),(2,(.tup [.int 0,.int 65535])),(3,(.tup [.int (-128),.int 127])),(4,(.tup [.int 0,.int 255])),(5,(.tup [.int (-32768),.int 32767])),(6,(.tup [.int 0,.int 65535])),(7,(.tup [.int (-2147483648),.int 2147483647])),(8,(.tup [.int 0,.int 4294967295])),(9,(.tup [.int (-9223372036854775808),.int 9223372036854775807])),(10,(.tup [.int 0,.int 18446744073709551615])),(11,(.tup [.int (-2147483648),.int 2147483647]))]
noncomputable def dKID_PLACES:List (Int×V):=[(4,(.tup [(.tup [.int 2,.int 1])])),(6,(.tup [(.tup [.int 2,.int 1]),(.tup [.int 3,.int 1])])),(7,(.tup [(.tup [.int 2,.int 1])])),(8,(.tup [(.tup [.int 2,.int 2]),(.tup [.int 4,.int 3])])),(9,(.tup [(.tup [.int 3,.int 3])])),(10,(.tup [(.tup [.int 2,.int 1])])),(11,(.tup [(.tup [.int 2,.int 3])])),(13,(.tup [(.tup [.int 3,.int 1])])),(14,(.tup [(.tup [.int 3,.int 1]),(.tup [.int 4,.int 1])])),(15,(.tup [(.tup [.int 2,.int 1]),(.tup [.int 3,.int 1])])),(16,(.tup [(.tup [.int 2,.int 1]),(.tup [.int 3,.int 1])])),(17,(.tup [(.tup [.int 2,.int 1]),(.tup [.int 3,.int 1]),(.tup [.int 4,.int 1])])),(18,(.tup [(.tup [.int 2,.int 1]),(.tup [.int 3,.int 1])])),(19,(.tup [(.tup [.int 2,.int 1])])),(20,(.tup [(.tup [.int 2,.int 1])])),(21,(.tup [(.tup [.int 2,.int 1])])),(22,(.tup [(.tup [.int 2,.int 1]),(.tup [.int 3,.int 1])])),(23,(.tup [(.tup [.int 2,.int 1]),(.tup [.int 3,.int 1])])),(25,(.tup [(.tup [.int 2,.int 2])])),(26,(.tup [(.tup [.int 2,.int 3])])),(27,(.tup [(.tup [.int 3,.int 1]),(.tup [.int 4,.int 1])])),(28,(.tup [(.tup [.int 3,.int 1])])),(30,(.tup [(.tup [.int 2,.int 1])])),(31,(.tup [(.tup [.int 2,.int 3]),(.tup [.int 3,.int 1])])),(33,(.tup [(.tup [.int 2,.int 1])])),(34,(.tup [(.tup [.int 2,.int 2]),(.tup [.int 5,.int 3])])),(35,(.tup [(.tup [.int 3,.int 3])])),(36,(.tup [(.tup [.int 2,.int 2])]))]
noncomputable def fint_range:Fn:={name:=So "int_range",np:=1,names:=(sts ["k"]),body:=(.cons (.ifS (.dnin (Str.ofString "INT_RANGES") dINT_RANGES L0) (.cons .raise .nil) Ss.nil)
(.cons (.ret (.dget (Str.ofString "INT_RANGES") dINT_RANGES L0)) .nil))}
noncomputable def fis_number:Fn:={name:=So "is_number",np:=1,names:=(sts ["k"]),body:=(.cons (.ret (.boo true (K2 (.cmp .LtE (Gl "CHAR" 2) L0) (.cmp .LtE L0 (Gl "U8" 10))))) .nil)}
noncomputable def fparts_at:Fn:={name:=So "parts_at",np:=2,names:=(sts ["row","places","out","place","sort","part"]),body:=(.cons (.newO 2)
(.cons (.for2 3 4 L1 (.cons (.asg 5 (.sub L0 L3))
(.cons (.ifS (.cmp .Eq L4 (Gl "KS_ROW" 3)) (.cons (.extO 2 L5) .nil) (.cons (.ifS (.cmp .IsNot L5 E.none) (.cons (.appO 2 L5) .nil) Ss.nil) .nil)) .nil)))
(.cons (.frz 2) (.cons (.ret (.bif .tuple (K1 L2))) .nil))))}
noncomputable def fkids_of:Fn:={name:=So "kids_of",np:=1,names:=(sts ["e"]),body:=(.cons (.ret (.call 2 (K2 L0 (.dgetD (Str.ofString "KID_PLACES") dKID_PLACES (.sub L0 (.int 0)) (.tup .nil))))) .nil)}
noncomputable def fwith_kids:Fn:={name:=So "with_kids",np:=2,names:=(sts ["e","kids","row","at","place","sort","part"]),body:=(.cons (.lstO 2 L0)
(.cons (.asg 3 (.int 0))
(.cons (.for2 4 5 (.dgetD (Str.ofString "KID_PLACES") dKID_PLACES (.sub L0 (.int 0)) (.tup .nil)) (.cons (.asg 6 (.sub L0 L4))
(.cons (.ifS (.cmp .Eq L5 (Gl "KS_ROW" 3)) (.cons (.setO 2 L4 (.bif .tuple (K1 (.slcB L1 L3 (.bin .Add L3 (.bif .len (K1 L6)))))))
(.cons (.aug 3 .Add (.bif .len (K1 L6))) .nil)) (.cons (.ifS (.cmp .IsNot L6 E.none) (.cons (.setO 2 L4 (.sub L1 L3))
(.cons (.aug 3 .Add (.int 1)) .nil)) Ss.nil) .nil)) .nil)))
(.cons (.frz 2) (.cons (.ret (.bif .tuple (K1 L2))) .nil)))))}
noncomputable def fcut:Fn:={name:=So "cut",np:=2,names:=(sts ["k","n","low","high"]),body:=(.cons (.unp [2,3] (.call 0 (K1 L0)))
(.cons (.ret (.bin .Add L2 (.bin .Mod (.bin .Sub L1 L2) (.bin .Add (.bin .Sub L3 L2) (.int 1))))) .nil))}
noncomputable def fin_range:Fn:={name:=So "in_range",np:=2,names:=(sts ["k","n","low","high"]),body:=(.cons (.unp [2,3] (.call 0 (K1 L0)))
(.cons (.ret (.boo true (K2 (.cmp .LtE L2 L1) (.cmp .LtE L1 L3)))) .nil))}
noncomputable def ffold_width:Fn:={name:=So "fold_width",np:=1,names:=(sts ["k"]),body:=(.cons (.ifS (.boo false (K2 (.cmp .Eq L0 (Gl "I8" 9)) (.cmp .Eq L0 (Gl "U8" 10)))) (.cons (.ret (.int 64)) .nil) Ss.nil)
(.cons (.ret (.int 32)) .nil))}
noncomputable def ffold_compare:Fn:={name:=So "fold_compare",np:=3,names:=(sts ["op","a","b"]),body:=(.cons (.ifS (.cmp .Eq L0 (Tx "==")) (.cons (.ret (.ite (.cmp .Eq L1 L2) (.int 1) (.int 0))) .nil) Ss.nil)
(.cons (.ifS (.cmp .Eq L0 (Tx "!=")) (.cons (.ret (.ite (.cmp .NotEq L1 L2) (.int 1) (.int 0))) .nil) Ss.nil)
(.cons (.ifS (.cmp .Eq L0 (Tx "<")) (.cons (.ret (.ite (.cmp .Lt L1 L2) (.int 1) (.int 0))) .nil) Ss.nil)
(.cons (.ifS (.cmp .Eq L0 (Tx "<=")) (.cons (.ret (.ite (.cmp .LtE L1 L2) (.int 1) (.int 0))) .nil) Ss.nil)
(.cons (.ifS (.cmp .Eq L0 (Tx ">")) (.cons (.ret (.ite (.cmp .Gt L1 L2) (.int 1) (.int 0))) .nil) Ss.nil)
(.cons (.ret (.ite (.cmp .GtE L1 L2) (.int 1) (.int 0))) .nil))))))}
noncomputable def ffold_bits:Fn:={name:=So "fold_bits",np:=3,names:=(sts ["op","a","b"]),body:=(.cons (.ifS (.cmp .Eq L0 (Tx "&")) (.cons (.ret (.bin .BitAnd L1 L2)) .nil) Ss.nil)
(.cons (.ifS (.cmp .Eq L0 (Tx "|")) (.cons (.ret (.bin .BitOr L1 L2)) .nil) Ss.nil)
(.cons (.ret (.bin .BitXor L1 L2)) .nil)))}
noncomputable def ffold_shift:Fn:={name:=So "fold_shift",np:=4,names:=(sts ["op","k","a","b","n"]),body:=(.cons (.asg 4 (.bin .BitAnd L3 (.bin .Sub (.call 7 (K1 L1)) (.int 1))))
(.cons (.ifS (.cmp .Eq L0 (Tx "<<")) (.cons (.ret (.call 5 (K2 L1 (.bin .LShift L2 L4)))) .nil) Ss.nil)
(.cons (.ret (.bin .RShift L2 L4)) .nil)))}
noncomputable def ffold_divide:Fn:={name:=So "fold_divide",np:=5,names:=(sts ["op","k","a","b","checked","low","q"]),body:=(.cons (.ifS (.cmp .Eq L3 (.int 0)) (.cons (.ret (.tup (K2 E.none (Gl "FD_ZERO" 20)))) .nil) Ss.nil)
(.cons (.asg 5 (.sub (.call 0 (K1 L1)) (.int 0)))
(.cons (.ifS (.boo true (K3 (.cmp .Eq L2 L5) (.cmp .Eq L3 (.neg (.int 1))) (.cmp .Lt L5 (.int 0)))) (.cons (.ifS L4 (.cons (.ret (.tup (K2 E.none (Gl "FD_OVERFLOW" 220)))) .nil) Ss.nil)
(.cons (.ret (.tup (K2 E.none (.int 0)))) .nil)) Ss.nil)
(.cons (.asg 6 (.bin .FloorDiv (.bif .abs (K1 L2)) (.bif .abs (K1 L3))))
(.cons (.ifS (.cmp .NotEq (.cmp .Lt L2 (.int 0)) (.cmp .Lt L3 (.int 0))) (.cons (.asg 6 (.neg L6)) .nil) Ss.nil)
(.cons (.ifS (.cmp .Eq L0 (Tx "/")) (.cons (.ret (.tup (K2 L6 (.int 0)))) .nil) Ss.nil)
(.cons (.ret (.tup (K2 (.bin .Sub L2 (.bin .Mult L6 L3)) (.int 0)))) .nil)))))))}
noncomputable def ffold_whole:Fn:={name:=So "fold_whole",np:=3,names:=(sts ["k","n","checked"]),body:=(.cons (.ifS (.call 6 (K2 L0 L1)) (.cons (.ret (.tup (K2 L1 (.int 0)))) .nil) Ss.nil)
(.cons (.ifS L2 (.cons (.ret (.tup (K2 E.none (Gl "FD_OVERFLOW" 220)))) .nil) Ss.nil)
(.cons (.ret (.tup (K2 (.call 5 (K2 L0 L1)) (.int 0)))) .nil)))}
noncomputable def ffold_bin:Fn:={name:=So "fold_bin",np:=5,names:=(sts ["op","k","a","b","checked"]),body:=(.cons (.ifS (.cmp .In L0 (.glob (Str.ofString "COMPARES") (.tup [(.str (Str.ofString "==")),(.str (Str.ofString "!=")),(.str (Str.ofString "<")),(.str (Str.ofString "<=")),(.str (Str.ofString ">")),(.str (Str.ofString ">="))]))) (.cons (.ret (.tup (K2 (.call 8 (K3 L0 L2 L3)) (.int 0)))) .nil) Ss.nil)
(.cons (.ifS (.boo false (K3 (.cmp .Eq L0 (Tx "&")) (.cmp .Eq L0 (Tx "|")) (.cmp .Eq L0 (Tx "^")))) (.cons (.ret (.tup (K2 (.call 9 (K3 L0 L2 L3)) (.int 0)))) .nil) Ss.nil)
(.cons (.ifS (.boo false (K2 (.cmp .Eq L0 (Tx "<<")) (.cmp .Eq L0 (Tx ">>")))) (.cons (.ret (.tup (K2 (.call 10 (K4 L0 L1 L2 L3)) (.int 0)))) .nil) Ss.nil)
(.cons (.ifS (.boo false (K2 (.cmp .Eq L0 (Tx "/")) (.cmp .Eq L0 (Tx "%")))) (.cons (.ret (.call 11 (K5 L0 L1 L2 L3 L4))) .nil) Ss.nil)
(.cons (.ifS (.cmp .Eq L0 (Tx "+")) (.cons (.ret (.call 12 (K3 L1 (.bin .Add L2 L3) L4))) .nil) Ss.nil)
(.cons (.ifS (.cmp .Eq L0 (Tx "-")) (.cons (.ret (.call 12 (K3 L1 (.bin .Sub L2 L3) L4))) .nil) Ss.nil)
(.cons (.ret (.call 12 (K3 L1 (.bin .Mult L2 L3) L4))) .nil)))))))}
noncomputable def ffold_un:Fn:={name:=So "fold_un",np:=4,names:=(sts ["op","k","a","checked"]),body:=(.cons (.ifS (.cmp .Eq L0 (Tx "!")) (.cons (.ret (.tup (K2 (.bin .Sub (.int 1) L2) (.int 0)))) .nil) Ss.nil)
(.cons (.ifS (.cmp .Eq L0 (Tx "~")) (.cons (.ret (.tup (K2 (.call 5 (K2 L1 (.bin .Sub (.neg (.int 1)) L2))) (.int 0)))) .nil) Ss.nil)
(.cons (.ret (.call 12 (K3 L1 (.neg L2) L3))) .nil)))}
noncomputable def ffold_conv:Fn:={name:=So "fold_conv",np:=3,names:=(sts ["k","value","checked","pair"]),body:=(.cons (.asg 3 (.call 12 (K3 L0 L1 L2)))
(.cons (.ifS (.cmp .Is (.sub L3 (.int 0)) E.none) (.cons (.ret (.tup (K2 E.none (Gl "FD_CONVERT" 221)))) .nil) Ss.nil)
(.cons (.ret L3) .nil)))}
noncomputable def fknown:Fn:={name:=So "known",np:=1,names:=(sts ["e"]),body:=(.cons (.ret (.boo true (K2 (.cmp .Eq (.sub L0 (.int 0)) (Gl "X_CONST" 1)) (.cmp .NotEq (.sub L0 (.int 1)) (Gl "BAD" 15))))) .nil)}
noncomputable def fnumeric:Fn:={name:=So "numeric",np:=1,names:=(sts ["e"]),body:=(.cons (.ret (.boo true (K3 (.call 16 (K1 L0)) (.cmp .IsNot (.sub L0 (.int 2)) E.none) (.cmp .NotEq (.sub L0 (.int 1)) (Gl "STRING" 13))))) .nil)}
noncomputable def fmade:Fn:={name:=So "made",np:=2,names:=(sts ["e","pair"]),body:=(.cons (.ifS (.cmp .Is (.sub L1 (.int 0)) E.none) (.cons (.ret L0) .nil) Ss.nil)
(.cons (.ret (.tup (K3 (Gl "X_CONST" 1) (.sub L0 (.int 1)) (.sub L1 (.int 0))))) .nil))}
noncomputable def fas_constant:Fn:={name:=So "as_constant",np:=2,names:=(sts ["e","loose","code"]),body:=(.cons (.asg 2 (.sub L0 (.int 0)))
(.cons (.ifS (.cmp .Eq L1 (.int 1)) (.cons (.ret L0) .nil) Ss.nil)
(.cons (.ifS (.boo true (K2 (.cmp .Eq L2 (Gl "X_UN" 13)) (.call 16 (K1 (.sub L0 (.int 3)))))) (.cons (.ret (.tup (K5 (Gl "X_UN" 13) (.sub L0 (.int 1)) (.sub L0 (.int 2)) (.sub L0 (.int 3)) (.int 1)))) .nil) Ss.nil)
(.cons (.ifS (.boo true (K3 (.cmp .Eq L2 (Gl "X_BIN" 14)) (.call 16 (K1 (.sub L0 (.int 3)))) (.call 16 (K1 (.sub L0 (.int 4)))))) (.cons (.ret (.tup (K6 (Gl "X_BIN" 14) (.sub L0 (.int 1)) (.sub L0 (.int 2)) (.sub L0 (.int 3)) (.sub L0 (.int 4)) (.int 1)))) .nil) Ss.nil)
(.cons (.ifS (.boo true (K3 (.cmp .Eq L2 (Gl "X_CONV" 19)) (.cmp .Eq (.sub L0 (.int 3)) (Gl "CV_NUM" 1)) (.call 16 (K1 (.sub L0 (.int 2)))))) (.cons (.ret (.tup (K5 (Gl "X_CONV" 19) (.sub L0 (.int 1)) (.sub L0 (.int 2)) (.sub L0 (.int 3)) (.int 1)))) .nil) Ss.nil)
(.cons (.ret L0) .nil))))))}
noncomputable def fbin_known:Fn:={name:=So "bin_known",np:=1,names:=(sts ["e","l","r"]),body:=(.cons (.asg 1 (.sub L0 (.int 3)))
(.cons (.asg 2 (.sub L0 (.int 4)))
(.cons (.ifS (.not (.boo true (K2 (.call 16 (K1 L1)) (.call 16 (K1 L2))))) (.cons (.ret (.bool false)) .nil) Ss.nil)
(.cons (.ifS (.boo false (K2 (.cmp .Eq (.sub L0 (.int 2)) (Tx "==")) (.cmp .Eq (.sub L0 (.int 2)) (Tx "!=")))) (.cons (.ret (.bool true)) .nil) Ss.nil)
(.cons (.ret (.boo true (K3 (.call 17 (K1 L1)) (.call 17 (K1 L2)) (.boo false (K2 (.cmp .Eq (.sub L1 (.int 1)) (Gl "BOOL" 1)) (.call 1 (K1 (.sub L1 (.int 1))))))))) .nil)))))}
noncomputable def fzero_right:Fn:={name:=So "zero_right",np:=1,names:=(sts ["e","r"]),body:=(.cons (.asg 1 (.sub L0 (.int 4)))
(.cons (.ret (.boo true (K4 (.boo false (K2 (.cmp .Eq (.sub L0 (.int 2)) (Tx "/")) (.cmp .Eq (.sub L0 (.int 2)) (Tx "%")))) (.cmp .Eq (.sub L1 (.int 0)) (Gl "X_CONST" 1)) (.call 1 (K1 (.sub L1 (.int 1)))) (.cmp .Eq (.sub L1 (.int 2)) (.int 0))))) .nil))}
noncomputable def fbin_result:Fn:={name:=So "bin_result",np:=1,names:=(sts ["e"]),body:=(.cons (.ret (.call 13 (K5 (.sub L0 (.int 2)) (.sub (.sub L0 (.int 3)) (.int 1)) (.sub (.sub L0 (.int 3)) (.int 2)) (.sub (.sub L0 (.int 4)) (.int 2)) (.sub L0 (.int 5))))) .nil)}
noncomputable def ffold_fault:Fn:={name:=So "fold_fault",np:=1,names:=(sts ["e","code"]),body:=(.cons (.asg 1 (.sub L0 (.int 0)))
(.cons (.ifS (.boo true (K3 (.cmp .Eq L1 (Gl "X_UN" 13)) (.call 17 (K1 (.sub L0 (.int 3)))) (.boo false (K2 (.cmp .Eq (.sub L0 (.int 2)) (Tx "!")) (.call 1 (K1 (.sub L0 (.int 1)))))))) (.cons (.ret (.sub (.call 14 (K4 (.sub L0 (.int 2)) (.sub L0 (.int 1)) (.sub (.sub L0 (.int 3)) (.int 2)) (.sub L0 (.int 4)))) (.int 1))) .nil) Ss.nil)
(.cons (.ifS (.boo true (K2 (.cmp .Eq L1 (Gl "X_BIN" 14)) (.call 21 (K1 L0)))) (.cons (.ret (Gl "FD_ZERO" 20)) .nil) Ss.nil)
(.cons (.ifS (.boo true (K2 (.cmp .Eq L1 (Gl "X_BIN" 14)) (.call 20 (K1 L0)))) (.cons (.ret (.sub (.call 22 (K1 L0)) (.int 1))) .nil) Ss.nil)
(.cons (.ifS (.boo true (K4 (.cmp .Eq L1 (Gl "X_CONV" 19)) (.cmp .Eq (.sub L0 (.int 3)) (Gl "CV_NUM" 1)) (.call 17 (K1 (.sub L0 (.int 2)))) (.call 1 (K1 (.sub L0 (.int 1)))))) (.cons (.ret (.sub (.call 15 (K3 (.sub L0 (.int 1)) (.sub (.sub L0 (.int 2)) (.int 2)) (.sub L0 (.int 4)))) (.int 1))) .nil) Ss.nil)
(.cons (.ret (.int 0)) .nil))))))}
noncomputable def ffold_unary:Fn:={name:=So "fold_unary",np:=1,names:=(sts ["e"]),body:=(.cons (.ifS (.boo false (K2 (.not (.call 17 (K1 (.sub L0 (.int 3))))) (.not (.boo false (K2 (.cmp .Eq (.sub L0 (.int 2)) (Tx "!")) (.call 1 (K1 (.sub L0 (.int 1))))))))) (.cons (.ret L0) .nil) Ss.nil)
(.cons (.ret (.call 18 (K2 L0 (.call 14 (K4 (.sub L0 (.int 2)) (.sub L0 (.int 1)) (.sub (.sub L0 (.int 3)) (.int 2)) (.sub L0 (.int 4))))))) .nil))}
noncomputable def ffold_binary:Fn:={name:=So "fold_binary",np:=1,names:=(sts ["e"]),body:=(.cons (.ifS (.not (.call 20 (K1 L0))) (.cons (.ret L0) .nil) Ss.nil)
(.cons (.ret (.call 18 (K2 L0 (.call 22 (K1 L0))))) .nil))}
noncomputable def ffold_logic:Fn:={name:=So "fold_logic",np:=1,names:=(sts ["e"]),body:=(.cons (.ifS (.not (.boo true (K2 (.call 16 (K1 (.sub L0 (.int 2)))) (.call 16 (K1 (.sub L0 (.int 3))))))) (.cons (.ret L0) .nil) Ss.nil)
(.cons (.ifS (.cmp .Eq (.sub L0 (.int 0)) (Gl "X_AND" 15)) (.cons (.ret (.tup (K3 (Gl "X_CONST" 1) (.sub L0 (.int 1)) (.bin .BitAnd (.sub (.sub L0 (.int 2)) (.int 2)) (.sub (.sub L0 (.int 3)) (.int 2)))))) .nil) Ss.nil)
(.cons (.ret (.tup (K3 (Gl "X_CONST" 1) (.sub L0 (.int 1)) (.bin .BitOr (.sub (.sub L0 (.int 2)) (.int 2)) (.sub (.sub L0 (.int 3)) (.int 2)))))) .nil)))}
noncomputable def ffold_choice:Fn:={name:=So "fold_choice",np:=1,names:=(sts ["e"]),body:=(.cons (.ifS (.not (.boo true (K3 (.call 16 (K1 (.sub L0 (.int 2)))) (.call 16 (K1 (.sub L0 (.int 3)))) (.call 16 (K1 (.sub L0 (.int 4))))))) (.cons (.ret L0) .nil) Ss.nil)
(.cons (.ifS (.cmp .Eq (.sub (.sub L0 (.int 2)) (.int 2)) (.int 1)) (.cons (.ret (.tup (K3 (Gl "X_CONST" 1) (.sub L0 (.int 1)) (.sub (.sub L0 (.int 3)) (.int 2))))) .nil) Ss.nil)
(.cons (.ret (.tup (K3 (Gl "X_CONST" 1) (.sub L0 (.int 1)) (.sub (.sub L0 (.int 4)) (.int 2))))) .nil)))}
noncomputable def fis_constant_null:Fn:={name:=So "is_constant_null",np:=1,names:=(sts ["e"]),body:=(.cons (.ifS (.boo true (K2 (.cmp .Eq (.sub L0 (.int 0)) (Gl "X_CONV" 19)) (.cmp .Eq (.sub L0 (.int 3)) (Gl "CV_NULL" 8)))) (.cons (.asg 0 (.sub L0 (.int 2))) .nil) Ss.nil)
(.cons (.ret (.boo true (K2 (.call 16 (K1 L0)) (.cmp .Is (.sub L0 (.int 2)) E.none)))) .nil))}
noncomputable def fnull_turned:Fn:={name:=So "null_turned",np:=1,names:=(sts ["e"]),body:=(.cons (.ifS (.boo false (K2 (.cmp .Eq (.sub L0 (.int 1)) (Gl "STRING" 13)) (.cmp .Eq (.sub L0 (.int 1)) (Gl "OBJECT" 12)))) (.cons (.ret (.tup (K3 (Gl "X_CONST" 1) (.sub L0 (.int 1)) E.none))) .nil) Ss.nil)
(.cons (.ifS (.cmp .Eq (.sub L0 (.int 3)) (Gl "CV_CAST" 3)) (.cons (.ret L0) .nil) Ss.nil)
(.cons (.ret (.tup (K5 (Gl "X_CONV" 19) (.sub L0 (.int 1)) (.tup (K3 (Gl "X_CONST" 1) (Gl "NULLK" 14) E.none)) (Gl "CV_NULL" 8) (.int 0)))) .nil)))}
noncomputable def ffold_convert:Fn:={name:=So "fold_convert",np:=1,names:=(sts ["e","inner"]),body:=(.cons (.asg 1 (.sub L0 (.int 2)))
(.cons (.ifS (.boo true (K2 (.cmp .Eq (.sub L0 (.int 3)) (Gl "CV_SAME" 10)) (.call 16 (K1 L1)))) (.cons (.ret (.tup (K3 (Gl "X_CONST" 1) (.sub L0 (.int 1)) (.sub L1 (.int 2))))) .nil) Ss.nil)
(.cons (.ifS (.boo true (K3 (.cmp .Eq (.sub L0 (.int 3)) (Gl "CV_NULL" 8)) (.call 16 (K1 L1)) (.boo false (K2 (.cmp .Eq (.sub L0 (.int 1)) (Gl "STRING" 13)) (.cmp .Eq (.sub L0 (.int 1)) (Gl "OBJECT" 12)))))) (.cons (.ret (.tup (K3 (Gl "X_CONST" 1) (.sub L0 (.int 1)) E.none))) .nil) Ss.nil)
(.cons (.ifS (.boo true (K2 (.boo false (K2 (.cmp .Eq (.sub L0 (.int 3)) (Gl "CV_REF" 2)) (.cmp .Eq (.sub L0 (.int 3)) (Gl "CV_CAST" 3)))) (.call 28 (K1 L1)))) (.cons (.ret (.call 29 (K1 L0))) .nil) Ss.nil)
(.cons (.ifS (.boo false (K2 (.cmp .NotEq (.sub L0 (.int 3)) (Gl "CV_NUM" 1)) (.not (.call 17 (K1 L1))))) (.cons (.ret L0) .nil) Ss.nil)
(.cons (.ifS (.not (.call 1 (K1 (.sub L0 (.int 1))))) (.cons (.ifS (.boo true (K2 (.cmp .LtE (.int 0) (.sub L1 (.int 2))) (.cmp .LtE (.sub L1 (.int 2)) (.int 127)))) (.cons (.ret (.tup (K3 (Gl "X_CONST" 1) (.sub L0 (.int 1)) (.sub L1 (.int 2))))) .nil) Ss.nil)
(.cons (.ret L0) .nil)) Ss.nil)
(.cons (.ret (.call 18 (K2 L0 (.call 15 (K3 (.sub L0 (.int 1)) (.sub L1 (.int 2)) (.sub L0 (.int 4))))))) .nil)))))))}
noncomputable def ffold_default:Fn:={name:=So "fold_default",np:=1,names:=(sts ["e"]),body:=(.cons (.ifS (.boo false (K2 (.cmp .Eq (.sub L0 (.int 1)) (Gl "BOOL" 1)) (.call 1 (K1 (.sub L0 (.int 1)))))) (.cons (.ret (.tup (K3 (Gl "X_CONST" 1) (.sub L0 (.int 1)) (.int 0)))) .nil) Ss.nil)
(.cons (.ifS (.boo false (K2 (.cmp .Eq (.sub L0 (.int 1)) (Gl "STRING" 13)) (.cmp .Eq (.sub L0 (.int 1)) (Gl "OBJECT" 12)))) (.cons (.ret (.tup (K3 (Gl "X_CONST" 1) (.sub L0 (.int 1)) E.none))) .nil) Ss.nil)
(.cons (.ret L0) .nil)))}
noncomputable def ftext_part:Fn:={name:=So "text_part",np:=1,names:=(sts ["part"]),body:=(.cons (.ifS (.not (.call 16 (K1 L0))) (.cons (.ret E.none) .nil) Ss.nil)
(.cons (.ifS (.cmp .Is (.sub L0 (.int 2)) E.none) (.cons (.ret (Tx "")) .nil) Ss.nil)
(.cons (.ifS (.cmp .NotEq (.sub L0 (.int 1)) (Gl "STRING" 13)) (.cons (.ret E.none) .nil) Ss.nil)
(.cons (.ret (.sub L0 (.int 2))) .nil))))}
noncomputable def ffold_concat:Fn:={name:=So "fold_concat",np:=1,names:=(sts ["e","parts","last","part","text"]),body:=(.cons (.newO 1)
(.cons (.asg 2 E.none)
(.cons (.forS 3 (.sub L0 (.int 2)) (.cons (.asg 4 (.call 32 (K1 L3)))
(.cons (.ifS (.boo true (K2 (.cmp .IsNot L4 E.none) (.cmp .IsNot L2 E.none))) (.cons (.asg 2 (.bin .Add L2 L4))
(.cons (.setO 1 (.neg (.int 1)) (.tup (K3 (Gl "X_CONST" 1) (Gl "STRING" 13) L2))) .nil)) (.cons (.ifS (.cmp .IsNot L4 E.none) (.cons (.asg 2 L4)
(.cons (.appO 1 (.tup (K3 (Gl "X_CONST" 1) (Gl "STRING" 13) L4))) .nil)) (.cons (.asg 2 E.none)
(.cons (.appO 1 L3) .nil))) .nil)) .nil)))
(.cons (.frz 1) (.cons (.ifS (.boo true (K2 (.cmp .Eq (.bif .len (K1 L1)) (.int 1)) (.cmp .IsNot L2 E.none))) (.cons (.ret (.sub L1 (.int 0))) .nil) Ss.nil)
(.cons (.ret (.tup (K3 (Gl "X_CONCAT" 26) (.sub L0 (.int 1)) (.bif .tuple (K1 L1))))) .nil))))))}
noncomputable def ffold:Fn:={name:=So "fold",np:=1,names:=(sts ["e","code"]),body:=(.cons (.asg 1 (.sub L0 (.int 0)))
(.cons (.ifS (.cmp .Eq L1 (Gl "X_UN" 13)) (.cons (.ret (.call 24 (K1 L0))) .nil) Ss.nil)
(.cons (.ifS (.cmp .Eq L1 (Gl "X_BIN" 14)) (.cons (.ret (.call 25 (K1 L0))) .nil) Ss.nil)
(.cons (.ifS (.boo false (K2 (.cmp .Eq L1 (Gl "X_AND" 15)) (.cmp .Eq L1 (Gl "X_OR" 16)))) (.cons (.ret (.call 26 (K1 L0))) .nil) Ss.nil)
(.cons (.ifS (.cmp .Eq L1 (Gl "X_COND" 17)) (.cons (.ret (.call 27 (K1 L0))) .nil) Ss.nil)
(.cons (.ifS (.cmp .Eq L1 (Gl "X_CONV" 19)) (.cons (.ret (.call 30 (K1 L0))) .nil) Ss.nil)
(.cons (.ifS (.cmp .Eq L1 (Gl "X_CONCAT" 26)) (.cons (.ret (.call 33 (K1 L0))) .nil) Ss.nil)
(.cons (.ifS (.cmp .Eq L1 (Gl "X_DEFAULT" 12)) (.cons (.ret (.call 31 (K1 L0))) .nil) Ss.nil)
(.cons (.ret L0) .nil)))))))))}
noncomputable def ffold_all:Fn:={name:=So "fold_all",np:=1,names:=(sts ["e","kids","turned","kid"]),body:=(.cons (.ifS (.cmp .Eq (.sub L0 (.int 0)) (Gl "X_CONST" 1)) (.cons (.ret L0) .nil) Ss.nil)
(.cons (.asg 1 (.call 3 (K1 L0)))
(.cons (.ifS (.cmp .Eq (.bif .len (K1 L1)) (.int 0)) (.cons (.ret (.call 34 (K1 L0))) .nil) Ss.nil)
(.cons (.newO 2)
(.cons (.forS 3 L1 (.cons (.appO 2 (.call 35 (K1 L3))) .nil))
(.cons (.frz 2) (.cons (.ret (.call 34 (K1 (.call 4 (K2 L0 (.bif .tuple (K1 L2))))))) .nil)))))))}
noncomputable def f_law_take:Fn:={name:=So "_law_take",np:=2,names:=(sts ["w","count","at","given"]),body:=(.cons (.asg 2 (.wg 0 .at_))
(.cons (.wset 0 .at_ (.bin .Add L2 (.int 1)))
(.cons (.asg 3 (.wg 0 .given))
(.cons (.ret (.bin .Mod (.bin .Add (.sub L3 (.bin .Mod L2 (.bif .len (K1 L3)))) (.bin .Mult (.int 11) (.bin .FloorDiv L2 (.bif .len (K1 L3))))) L1)) .nil))))}
noncomputable def f_law_span:Fn:={name:=So "_law_span",np:=1,names:=(sts ["k","bits","low"]),body:=(.cons (.asg 1 (.pick (.cons (Gl "BOOL" 1) (.int 1) (.cons (Gl "CHAR" 2) (.int 16) (.cons (Gl "I1" 3) (.int 8) (.cons (Gl "U1" 4) (.int 8) (.cons (Gl "I2" 5) (.int 16) (.cons (Gl "U2" 6) (.int 16) (.cons (Gl "I4" 7) (.int 32) (.cons (Gl "U4" 8) (.int 32) (.cons (Gl "I8" 9) (.int 64) (.cons (Gl "U8" 10) (.int 64) Ps.nil)))))))))) L0))
(.cons (.asg 2 (.ite (.cmp .In L0 (.tup (K4 (Gl "I1" 3) (Gl "I2" 5) (Gl "I4" 7) (Gl "I8" 9)))) (.neg (.bin .Pow (.int 2) (.bin .Sub L1 (.int 1)))) (.int 0)))
(.cons (.ret (.tup (K2 L2 (.bin .Sub (.bin .Add L2 (.bin .Pow (.int 2) L1)) (.int 1))))) .nil)))}
noncomputable def f_law_value:Fn:={name:=So "_law_value",np:=2,names:=(sts ["w","k","edges","low","high"]),body:=(.cons (.ifS (.cmp .Eq L1 (Gl "STRING" 13)) (.cons (.ret (.sub (.tup (K4 (Tx "a") (Tx "") (Tx "bc") E.none)) (.call 36 (K2 L0 (.int 4))))) .nil) Ss.nil)
(.cons (.ifS (.cmp .Eq L1 (Gl "OBJECT" 12)) (.cons (.ret E.none) .nil) Ss.nil)
(.cons (.ifS (.boo false (K2 (.cmp .Eq L1 (Gl "BOOL" 1)) (.cmp .Eq L1 (Gl "_law_E" 40)))) (.cons (.ret (.call 36 (K2 L0 (.int 2)))) .nil) Ss.nil)
(.cons (.asg 2 (.tup (.cons (.int 1) (.cons (.int 2) (.cons (.int 0) (.cons (.neg (.int 1)) (.cons (.int 3) (.cons (.int 7) (.cons (.int 127) (K6 (.int 33) (.int 300) (.int 2147483647) (.neg (.int 2147483648)) (.int 9223372036854775807) (.neg (.int 9223372036854775808))))))))))))
(.cons (.unp [3,4] (.call 37 (K1 L1)))
(.cons (.ret (.bif .min (K2 L4 (.bif .max (K2 L3 (.sub L2 (.call 36 (K2 L0 (.int 13))))))))) .nil))))))}
noncomputable def f_law_leaf:Fn:={name:=So "_law_leaf",np:=2,names:=(sts ["w","k","n"]),body:=(.cons (.asg 2 (.call 36 (K2 L0 (.int 7))))
(.cons (.ifS (.cmp .Eq L1 (Gl "NULLK" 14)) (.cons (.ret (.tup (K6 (Gl "X_CONST" 1) (Gl "NULLK" 14) E.none (.int 0) (.int 0) (.tup .nil)))) .nil) Ss.nil)
(.cons (.ifS (.boo false (K2 (.cmp .Eq L2 (.int 1)) (.cmp .Eq L1 (Gl "_law_C" 41)))) (.cons (.ret (.tup (K6 (Gl "X_LOCAL" 2) L1 (.int 1) (.int 0) (.int 0) (.tup .nil)))) .nil) Ss.nil)
(.cons (.ifS (.cmp .Eq L2 (.int 2)) (.cons (.ret (.tup (K6 (Gl "X_DEFAULT" 12) L1 (.int 0) (.int 0) (.int 0) (.tup .nil)))) .nil) Ss.nil)
(.cons (.ifS (.cmp .Eq L2 (.int 3)) (.cons (.ret (.tup (K6 (Gl "X_CONST" 1) (Gl "BAD" 15) E.none (.int 0) (.int 0) (.tup .nil)))) .nil) Ss.nil)
(.cons (.ret (.tup (K6 (Gl "X_CONST" 1) L1 (.call 38 (K2 L0 L1)) (.int 0) (.int 0) (.tup .nil)))) .nil))))))}
noncomputable def f_law_number:Fn:={name:=So "_law_number",np:=3,names:=(sts ["w","what","k","far","sign"]),body:=(.cons (.asg 3 (.sub (.tup (K4 (Gl "I4" 7) (Gl "U4" 8) (Gl "I8" 9) (Gl "U8" 10))) (.call 36 (K2 L0 (.int 4)))))
(.cons (.ifS (.cmp .NotIn L2 (.tup (K4 (Gl "I4" 7) (Gl "U4" 8) (Gl "I8" 9) (Gl "U8" 10)))) (.cons (.ret (.tup (K3 (Gl "X_CONV" 19) (Gl "CV_NUM" 1) (.tup (K1 L3))))) .nil) Ss.nil)
(.cons (.ifS (.cmp .Eq L1 (.int 2)) (.cons (.ret (.tup (K3 (Gl "X_CALL" 8) (Tx "") (.slcH (.tup (K2 L3 (Gl "BOOL" 1))) (.call 36 (K2 L0 (.int 3))))))) .nil) Ss.nil)
(.cons (.ifS (.cmp .Lt L1 (.int 6)) (.cons (.asg 4 (.sub (.tup (.cons (Tx "+") (.cons (Tx "-") (.cons (Tx "*") (.cons (Tx "/") (K6 (Tx "%") (Tx "&") (Tx "|") (Tx "^") (Tx "<<") (Tx ">>"))))))) (.call 36 (K2 L0 (.int 10)))))
(.cons (.ret (.tup (K3 (Gl "X_BIN" 14) L4 (.ite (.cmp .In L4 (.tup (K2 (Tx "<<") (Tx ">>")))) (.tup (K2 L2 (Gl "I4" 7))) (.tup (K2 L2 L2)))))) .nil)) Ss.nil)
(.cons (.ifS (.cmp .Eq L1 (.int 6)) (.cons (.ret (.tup (K3 (Gl "X_UN" 13) (.ite (.boo true (K2 (.cmp .In L2 (.tup (K2 (Gl "I4" 7) (Gl "I8" 9)))) (.cmp .Eq (.call 36 (K2 L0 (.int 2))) (.int 0)))) (Tx "-") (Tx "~")) (.tup (K1 L2))))) .nil) Ss.nil)
(.cons (.ret (.tup (K3 (Gl "X_CONV" 19) (Gl "CV_NUM" 1) (.tup (K1 (.sub (.tup (.cons L3 (K6 (Gl "CHAR" 2) (Gl "I1" 3) (Gl "U1" 4) (Gl "I2" 5) (Gl "U2" 6) (Gl "_law_E" 40)))) (.call 36 (K2 L0 (.int 7))))))))) .nil))))))}
noncomputable def f_law_truth:Fn:={name:=So "_law_truth",np:=2,names:=(sts ["w","what","n","far"]),body:=(.cons (.asg 2 (.call 36 (K2 L0 (.int 30))))
(.cons (.asg 3 (.sub (.tup (K4 (Gl "I4" 7) (Gl "U4" 8) (Gl "I8" 9) (Gl "U8" 10))) (.bin .Mod L2 (.int 4))))
(.cons (.ifS (.boo false (K2 (.cmp .Eq L1 (.int 2)) (.cmp .Eq L1 (.int 8)))) (.cons (.ret (.tup (K3 (.ite (.cmp .Eq (.bin .Mod L2 (.int 2)) (.int 0)) (Gl "X_AND" 15) (Gl "X_OR" 16)) (Tx "") (.tup (K2 (Gl "BOOL" 1) (Gl "BOOL" 1)))))) .nil) Ss.nil)
(.cons (.ifS (.cmp .Eq L1 (.int 3)) (.cons (.ret (.tup (K3 (Gl "X_UN" 13) (Tx "!") (.tup (K1 (Gl "BOOL" 1)))))) .nil) Ss.nil)
(.cons (.ifS (.cmp .Lt L1 (.int 6)) (.cons (.ret (.tup (K3 (Gl "X_BIN" 14) (.sub (.tup (K6 (Tx "==") (Tx "!=") (Tx "<") (Tx "<=") (Tx ">") (Tx ">="))) (.bin .Mod (.bin .FloorDiv L2 (.int 4)) (.int 6))) (.tup (K2 L3 L3))))) .nil) Ss.nil)
(.cons (.ifS (.cmp .Eq L1 (.int 6)) (.cons (.ret (.tup (K3 (Gl "X_BIN" 14) (.sub (.tup (K5 (Tx "==") (Tx "!=") (Tx "&") (Tx "|") (Tx "^"))) (.bin .Mod L2 (.int 5))) (.tup (K2 (Gl "BOOL" 1) (Gl "BOOL" 1)))))) .nil) Ss.nil)
(.cons (.ret (.tup (K3 (Gl "X_BIN" 14) (.sub (.tup (K2 (Tx "==") (Tx "!="))) (.bin .Mod L2 (.int 2))) (.tup (K2 (Gl "STRING" 13) (Gl "STRING" 13)))))) .nil)))))))}
noncomputable def f_law_words:Fn:={name:=So "_law_words",np:=3,names:=(sts ["w","what","k","n","parts","one"]),body:=(.cons (.asg 3 (.call 36 (K2 L0 (.int 27))))
(.cons (.ifS (.boo true (K2 (.cmp .Eq L2 (Gl "STRING" 13)) (.cmp .Lt L1 (.int 7)))) (.cons (.newO 4)
(.cons (.forS 5 (.bif .range (K1 (.bin .Add (.int 1) (.bin .Mod L3 (.int 3))))) (.cons (.appO 4 (.sub (.tup (K3 (Gl "STRING" 13) (Gl "OBJECT" 12) (Gl "STRING" 13))) (.bin .Mod (.bin .Add (.bin .FloorDiv L3 (.int 3)) L5) (.int 3)))) .nil))
(.cons (.frz 4) (.cons (.ret (.tup (K3 (Gl "X_CONCAT" 26) (Tx "") (.bif .tuple (K1 L4))))) .nil)))) Ss.nil)
(.cons (.ifS (.cmp .Eq L2 (Gl "STRING" 13)) (.cons (.ret (.ite (.cmp .Eq (.bin .Mod L3 (.int 2)) (.int 0)) (.tup (K3 (Gl "X_CONV" 19) (Gl "CV_CAST" 3) (.tup (K1 (Gl "OBJECT" 12))))) (.tup (K3 (Gl "X_CONV" 19) (Gl "CV_NULL" 8) (.tup (K1 (Gl "NULLK" 14))))))) .nil) Ss.nil)
(.cons (.ifS (.boo true (K2 (.cmp .Eq L2 (Gl "OBJECT" 12)) (.cmp .Lt L1 (.int 5)))) (.cons (.ret (.ite (.cmp .Eq (.bin .Mod L3 (.int 3)) (.int 2)) (.tup (K3 (Gl "X_CONV" 19) (Gl "CV_BOX" 4) (.tup (K1 (Gl "I4" 7))))) (.tup (K3 (Gl "X_CONV" 19) (Gl "CV_REF" 2) (.tup (K1 (Gl "STRING" 13))))))) .nil) Ss.nil)
(.cons (.ifS (.cmp .Eq L2 (Gl "OBJECT" 12)) (.cons (.ret (.tup (K3 (Gl "X_CONV" 19) (Gl "CV_REF" 2) (.tup (K1 (Gl "_law_C" 41)))))) .nil) Ss.nil)
(.cons (.ifS (.cmp .Lt L1 (.int 6)) (.cons (.ret (.tup (K3 (Gl "X_CONV" 19) (Gl "CV_NULL" 8) (.tup (K1 (Gl "NULLK" 14)))))) .nil) Ss.nil)
(.cons (.ret (.ite (.cmp .Eq (.bin .Mod L3 (.int 2)) (.int 0)) (.tup (K3 (Gl "X_CONV" 19) (Gl "CV_REF" 2) (.tup (K1 (Gl "_law_C" 41))))) (.tup (K3 (Gl "X_CONV" 19) (Gl "CV_CAST" 3) (.tup (K1 (Gl "OBJECT" 12))))))) .nil)))))))}
noncomputable def f_law_grow:Fn:={name:=So "_law_grow",np:=4,names:=(sts ["w","k","deep","zone","what","code","sign","kinds","parts","one"]),body:=(.cons (.asg 4 (.call 36 (K2 L0 (.int 9))))
(.cons (.ifS (.boo false (K4 (.cmp .Eq L1 (Gl "NULLK" 14)) (.cmp .Eq L2 (.int 4)) (.cmp .Eq (.wg 0 .left) (.int 0)) (.boo true (K2 (.cmp .Eq L4 (.int 0)) (.cmp .Gt L2 (.int 0)))))) (.cons (.wapp 0 (.call 39 (K2 L0 L1)))
(.cons (.ret (.bin .Sub (.wlen 0) (.int 1))) .nil)) Ss.nil)
(.cons (.wset 0 .left (.bin .Sub (.wg 0 .left) (.int 1)))
(.cons (.ifS (.cmp .Gt L4 (.int 6)) (.cons (.asg 3 (.call 36 (K2 L0 (.int 3)))) .nil) Ss.nil)
(.cons (.ifS (.cmp .Lt L4 (.int 2)) (.cons (.unp [5,6,7] (.tup (K3 (Gl "X_COND" 17) (Tx "") (.tup (K3 (Gl "BOOL" 1) L1 L1))))) .nil) (.cons (.ifS (.cmp .Eq L1 (Gl "BOOL" 1)) (.cons (.unp [5,6,7] (.call 41 (K2 L0 L4))) .nil) (.cons (.ifS (.cmp .In L1 (.tup (K3 (Gl "STRING" 13) (Gl "OBJECT" 12) (Gl "_law_C" 41)))) (.cons (.unp [5,6,7] (.call 42 (K3 L0 L4 L1))) .nil) (.cons (.unp [5,6,7] (.call 40 (K3 L0 L4 L1))) .nil)) .nil)) .nil))
(.cons (.newO 8)
(.cons (.forS 9 L7 (.cons (.appO 8 (.call 43 (K4 L0 L9 (.bin .Add L2 (.int 1)) L3))) .nil))
(.cons (.frz 8) (.cons (.wapp 0 (.tup (K6 L5 L1 L6 (.ite (.cmp .Eq L3 (.int 1)) (.int 1) (.int 0)) (.ite (.cmp .Eq L3 (.int 2)) (.int 1) (.int 0)) (.bif .tuple (K1 L8)))))
(.cons (.ret (.bin .Sub (.wlen 0) (.int 1))) .nil))))))))))}
noncomputable def f_law_put:Fn:={name:=So "_law_put",np:=3,names:=(sts ["row","parts","checked","code","k","sign"]),body:=(.cons (.unp [3,4,5] (.slcH L0 (.int 3)))
(.cons (.ifS (.boo false (K2 (.cmp .Eq L3 (Gl "X_CONST" 1)) (.cmp .Eq L3 (Gl "X_LOCAL" 2)))) (.cons (.ret (.tup (K3 L3 L4 L5))) .nil) Ss.nil)
(.cons (.ifS (.cmp .Eq L3 (Gl "X_DEFAULT" 12)) (.cons (.ret (.tup (K2 L3 L4))) .nil) Ss.nil)
(.cons (.ifS (.cmp .Eq L3 (Gl "X_UN" 13)) (.cons (.ret (.tup (K5 L3 L4 L5 (.sub L1 (.int 0)) L2))) .nil) Ss.nil)
(.cons (.ifS (.cmp .Eq L3 (Gl "X_BIN" 14)) (.cons (.ret (.tup (K6 L3 L4 L5 (.sub L1 (.int 0)) (.sub L1 (.int 1)) L2))) .nil) Ss.nil)
(.cons (.ifS (.cmp .Eq L3 (Gl "X_CONV" 19)) (.cons (.ret (.tup (K5 L3 L4 (.sub L1 (.int 0)) L5 (.ite (.cmp .Eq L5 (Gl "CV_NUM" 1)) L2 (.int 0))))) .nil) Ss.nil)
(.cons (.ifS (.cmp .Eq L3 (Gl "X_CONCAT" 26)) (.cons (.ret (.tup (K3 L3 L4 (.bif .tuple (K1 L1))))) .nil) Ss.nil)
(.cons (.ifS (.cmp .Eq L3 (Gl "X_CALL" 8)) (.cons (.ret (.tup (K6 L3 L4 E.none (.tup (K3 (.int 7) (.int 7) (.tup .nil))) (.bif .tuple (K1 L1)) (.int 0)))) .nil) Ss.nil)
(.cons (.ret (.bin .Add (.tup (K2 L3 L4)) (.bif .tuple (K1 L1)))) .nil)))))))))}
noncomputable def f_law_still:Fn:={name:=So "_law_still",np:=1,names:=(sts ["e"]),body:=(.cons (.ret (.boo true (K2 (.cmp .Eq (.sub L0 (.int 0)) (Gl "X_CONST" 1)) (.cmp .NotEq (.sub L0 (.int 1)) (Gl "BAD" 15))))) .nil)}
noncomputable def f_law_parts:Fn:={name:=So "_law_parts",np:=2,names:=(sts ["rows","how","out","told","marks","row","checked","loose","parts","strict","e","",""]),body:=(.cons (.newO 2)
(.cons (.newO 3)
(.cons (.newO 4)
(.cons (.forS 5 L0 (.cons (.unp [6,7] (.ite (.cmp .Is L1 E.none) (.slcB L5 (.int 3) (.int 5)) L1))
(.cons (.asgC 8 11 (.subO 2 L11) (.sub L5 (.int 5)) .nil)
(.cons (.asg 9 (.ite (.boo true (K2 (.cmp .Eq L7 (.int 0)) (.cmp .NotIn (.bool false) (.comp 12 (.call 45 (K1 L12)) L8 .nil)))) (.int 1) L6))
(.cons (.asg 10 (.call 19 (K2 (.call 44 (K3 L5 L8 L6)) L7)))
(.cons (.ifS (.cmp .NotEq L10 (.call 44 (K3 L5 L8 L9))) (.cons (.ret E.none) .nil) Ss.nil)
(.cons (.appO 3 (.call 23 (K1 L10)))
(.cons (.appO 2 (.call 34 (K1 L10)))
(.cons (.appO 4 L9) .nil)))))))))
(.cons (.frz 2) (.cons (.frz 3) (.cons (.frz 4) (.cons (.ret (.tup (K3 L2 L3 L4))) .nil))))))))}
noncomputable def f_law_whole:Fn:={name:=So "_law_whole",np:=4,names:=(sts ["rows","marks","stands","picks","out","at","row","way","parts","begin","inner","e","",""]),body:=(.cons (.newO 4)
(.cons (.forS 5 (.bif .range (K1 (.bif .len (K1 L0)))) (.cons (.asg 6 (.sub L0 L5))
(.cons (.asg 7 (.sub L3 L5))
(.cons (.asgC 8 12 (.subO 4 L12) (.sub L6 (.int 5)) .nil)
(.cons (.ifS (.boo true (K2 (.cmp .Eq (.sub L6 (.int 0)) (Gl "X_CONCAT" 26)) (.cmp .Gt L7 (.int 3)))) (.cons (.asg 9 (.ite (.cmp .Eq L7 (.int 4)) (.int 0) (.bif .max (K2 (.int 0) (.bin .Sub (.bif .len (K1 L8)) (.int 2))))))
(.cons (.ifS (.cmp .NotIn (.bool false) (.comp 13 (.call 45 (K1 (.sub L2 L13))) (.slcB (.sub L6 (.int 5)) L9 (.bin .Add L9 (.int 2))) .nil)) (.cons (.asg 10 (.tup (K3 (Gl "X_CONCAT" 26) (Gl "STRING" 13) (.bif .tuple (K1 (.slcB L8 L9 (.bin .Add L9 (.int 2))))))))
(.cons (.asg 8 (.bin .Add (.bin .Add (.slcH L8 L9) (.lst (K1 L10))) (.slcL L8 (.bin .Add L9 (.int 2))))) .nil)) Ss.nil) .nil)) Ss.nil)
(.cons (.asg 11 (.call 44 (K3 L6 L8 (.sub L1 L5))))
(.cons (.ifS (.cmp .Eq L7 (.int 1)) (.cons (.asg 11 (.call 35 (K1 L11))) .nil) (.cons (.ifS (.boo true (K2 (.cmp .Eq L7 (.int 2)) (.call 45 (K1 (.sub L2 L5))))) (.cons (.asg 11 (.tup (K5 (Gl "X_CONV" 19) (.sub L6 (.int 1)) L11 (Gl "CV_SAME" 10) (.int 0)))) .nil) (.cons (.ifS (.boo true (K4 (.cmp .Eq L7 (.int 3)) (.call 45 (K1 (.sub L2 L5))) (.cmp .LtE (Gl "CHAR" 2) (.sub L6 (.int 1))) (.cmp .LtE (.sub L6 (.int 1)) (Gl "U8" 10)))) (.cons (.asg 11 (.tup (K5 (Gl "X_CONV" 19) (.sub L6 (.int 1)) L11 (Gl "CV_NUM" 1) (.bin .Mod L5 (.int 2))))) .nil) Ss.nil) .nil)) .nil))
(.cons (.appO 4 L11) .nil))))))))
(.cons (.ret (.subO 4 (.neg (.int 1)))) .nil)))}
noncomputable def f_law_two:Fn:={name:=So "_law_two",np:=4,names:=(sts ["sign","k","a","b","low","high","turns","n","rest"]),body:=(.cons (.ifS (.cmp .In L0 (.tup (K2 (Tx "==") (Tx "!=")))) (.cons (.ret (.tup (K2 (.ite (.cmp .Eq (.cmp .Eq L2 L3) (.cmp .Eq L0 (Tx "=="))) (.int 1) (.int 0)) (.int 0)))) .nil) Ss.nil)
(.cons (.ifS (.cmp .In L0 (.tup (K2 (Tx "<") (Tx ">=")))) (.cons (.ret (.tup (K2 (.ite (.cmp .Eq (.cmp .Lt L2 L3) (.cmp .Eq L0 (Tx "<"))) (.int 1) (.int 0)) (.int 0)))) .nil) Ss.nil)
(.cons (.ifS (.cmp .In L0 (.tup (K2 (Tx ">") (Tx "<=")))) (.cons (.ret (.tup (K2 (.ite (.cmp .Eq (.cmp .Lt L3 L2) (.cmp .Eq L0 (Tx ">"))) (.int 1) (.int 0)) (.int 0)))) .nil) Ss.nil)
(.cons (.ifS (.cmp .Eq L0 (Tx "&")) (.cons (.ret (.tup (K2 (.bin .BitAnd L2 L3) (.int 0)))) .nil) Ss.nil)
(.cons (.ifS (.cmp .In L0 (.tup (K2 (Tx "|") (Tx "^")))) (.cons (.ret (.tup (K2 (.bin .Sub (.bin .Add L2 L3) (.bin .Mult (.bin .BitAnd L2 L3) (.ite (.cmp .Eq L0 (Tx "|")) (.int 1) (.int 2)))) (.int 0)))) .nil) Ss.nil)
(.cons (.unp [4,5] (.call 37 (K1 L1)))
(.cons (.ifS (.cmp .In L0 (.tup (K2 (Tx "<<") (Tx ">>")))) (.cons (.asg 6 (.bin .Pow (.int 2) (.bin .Mod L3 (.ite (.cmp .In L1 (.tup (K2 (Gl "I4" 7) (Gl "U4" 8)))) (.int 32) (.int 64)))))
(.cons (.asg 7 (.ite (.cmp .Eq L0 (Tx ">>")) (.bin .FloorDiv L2 L6) (.bin .Mod (.bin .Mult L2 L6) (.bin .Add (.bin .Sub L5 L4) (.int 1)))))
(.cons (.ret (.tup (K2 (.ite (.cmp .Gt L7 L5) (.bin .Sub L7 (.bin .Add (.bin .Sub L5 L4) (.int 1))) L7) (.int 0)))) .nil))) Ss.nil)
(.cons (.ifS (.cmp .In L0 (.tup (K2 (Tx "/") (Tx "%")))) (.cons (.ifS (.boo true (K3 (.cmp .Eq L3 (.neg (.int 1))) (.cmp .Eq L2 L4) (.cmp .Lt L4 (.int 0)))) (.cons (.ret (.tup (K2 (.int 0) (.int 220)))) .nil) Ss.nil)
(.cons (.asg 8 (.bin .Mult (.bin .Mod (.bif .abs (K1 L2)) (.bif .abs (K1 L3))) (.ite (.cmp .GtE L2 (.int 0)) (.int 1) (.neg (.int 1)))))
(.cons (.ret (.tup (K2 (.ite (.cmp .Eq L0 (Tx "%")) L8 (.bin .FloorDiv (.bin .Sub L2 L8) L3)) (.int 0)))) .nil))) Ss.nil)
(.cons (.asg 7 (.pick (.cons (Tx "+") (.bin .Add L2 L3) (.cons (Tx "-") (.bin .Sub L2 L3) (.cons (Tx "*") (.bin .Mult L2 L3) Ps.nil))) L0))
(.cons (.ret (.tup (K2 L7 (.ite (.boo true (K2 (.cmp .LtE L4 L7) (.cmp .LtE L7 L5))) (.int 0) (.int 220))))) .nil))))))))))}
noncomputable def f_law_meant:Fn:={name:=So "_law_meant",np:=2,names:=(sts ["row","parts","code","k","sign","values","n","number","low","high","","",""]),body:=(.cons (.unp [2,3,4] (.slcH L0 (.int 3)))
(.cons (.ifS (.cmp .Eq L2 (Gl "X_CONST" 1)) (.cons (.ret (.ite (.cmp .Eq L3 (Gl "BAD" 15)) (.tup (K3 (.int 0) (.int 0) (.int 0))) (.tup (K3 (.int 1) L4 (.int 0))))) .nil) Ss.nil)
(.cons (.ifS (.boo true (K2 (.cmp .Eq L2 (Gl "X_DEFAULT" 12)) (.cmp .NotIn L3 (.tup (K2 (Gl "_law_E" 40) (Gl "_law_C" 41)))))) (.cons (.ret (.tup (K3 (.int 1) (.ite (.cmp .In L3 (.tup (K2 (Gl "STRING" 13) (Gl "OBJECT" 12)))) E.none (.int 0)) (.int 0)))) .nil) Ss.nil)
(.cons (.ifS (.cmp .In L2 (.tup (K3 (Gl "X_LOCAL" 2) (Gl "X_DEFAULT" 12) (Gl "X_CALL" 8)))) (.cons (.ret (.tup (K3 (.int 0) (.int 0) (.int 0)))) .nil) Ss.nil)
(.cons (.ifS (.boo true (K3 (.cmp .Eq L2 (Gl "X_BIN" 14)) (.cmp .In L4 (.tup (K2 (Tx "/") (Tx "%")))) (.cmp .Eq (.slcH (.sub L1 (.int 1)) (.int 2)) (.tup (K2 (.int 1) (.int 0)))))) (.cons (.ret (.tup (K3 (.int 0) (.int 0) (.int 20)))) .nil) Ss.nil)
(.cons (.ifS (.boo true (K2 (.cmp .Eq L2 (Gl "X_CONV" 19)) (.cmp .In L4 (.tup (K3 (Gl "CV_NULL" 8) (Gl "CV_REF" 2) (Gl "CV_CAST" 3)))))) (.cons (.ifS (.boo false (K2 (.cmp .Eq (.sub (.sub L1 (.int 0)) (.int 0)) (.int 0)) (.cmp .IsNot (.sub (.sub L1 (.int 0)) (.int 1)) E.none))) (.cons (.ret (.tup (K3 (.int 0) (.int 0) (.int 0)))) .nil) Ss.nil)
(.cons (.ifS (.cmp .In L3 (.tup (K2 (Gl "STRING" 13) (Gl "OBJECT" 12)))) (.cons (.ret (.tup (K3 (.int 1) E.none (.int 0)))) .nil) Ss.nil)
(.cons (.ret (.tup (K3 (.ite (.cmp .Eq L4 (Gl "CV_CAST" 3)) (.int 0) (.int 2)) E.none (.int 0)))) .nil))) Ss.nil)
(.cons (.ifS (.boo false (K2 (.cmp .In (.bool false) (.comp 10 (.cmp .Eq (.sub L10 (.int 0)) (.int 1)) L1 .nil)) (.boo true (K2 (.cmp .Eq L2 (Gl "X_CONV" 19)) (.cmp .Eq L4 (Gl "CV_BOX" 4)))))) (.cons (.ret (.tup (K3 (.int 0) (.int 0) (.int 0)))) .nil) Ss.nil)
(.cons (.asgC 5 11 (.sub L11 (.int 1)) L1 .nil)
(.cons (.ifS (.cmp .Eq L2 (Gl "X_CONCAT" 26)) (.cons (.ret (.tup (K3 (.int 1) (.join (.comp 12 L12 L5 (K1 (.cmp .IsNot L12 E.none)))) (.int 0)))) .nil) Ss.nil)
(.cons (.ifS (.boo false (K2 (.cmp .Eq L2 (Gl "X_AND" 15)) (.cmp .Eq L2 (Gl "X_OR" 16)))) (.cons (.ret (.tup (K3 (.int 1) (.ite (.cmp .Eq L2 (Gl "X_AND" 15)) (.bif .min (K1 L5)) (.bif .max (K1 L5))) (.int 0)))) .nil) Ss.nil)
(.cons (.ifS (.cmp .Eq L2 (Gl "X_COND" 17)) (.cons (.ret (.tup (K3 (.int 1) (.sub L5 (.bin .Sub (.int 2) (.sub L5 (.int 0)))) (.int 0)))) .nil) Ss.nil)
(.cons (.ifS (.cmp .Eq L2 (Gl "X_BIN" 14)) (.cons (.unp [6,7] (.call 48 (K4 L4 L3 (.sub L5 (.int 0)) (.sub L5 (.int 1)))))
(.cons (.ret (.tup (K3 (.ite (.cmp .Eq L7 (.int 0)) (.int 1) (.int 0)) L6 L7))) .nil)) Ss.nil)
(.cons (.ifS (.cmp .Eq L4 (Tx "!")) (.cons (.ret (.tup (K3 (.int 1) (.bin .Sub (.int 1) (.sub L5 (.int 0))) (.int 0)))) .nil) Ss.nil)
(.cons (.ifS (.cmp .Eq L3 (Gl "_law_E" 40)) (.cons (.ret (.tup (K3 (.ite (.boo true (K2 (.cmp .LtE (.int 0) (.sub L5 (.int 0))) (.cmp .LtE (.sub L5 (.int 0)) (.int 127)))) (.int 1) (.int 0)) (.sub L5 (.int 0)) (.int 0)))) .nil) Ss.nil)
(.cons (.unp [8,9] (.call 37 (K1 L3)))
(.cons (.ifS (.cmp .Eq L4 (Tx "~")) (.cons (.ret (.tup (K3 (.int 1) (.bin .Sub (.bin .Add L8 L9) (.sub L5 (.int 0))) (.int 0)))) .nil) Ss.nil)
(.cons (.asg 6 (.ite (.cmp .Eq L2 (Gl "X_UN" 13)) (.neg (.sub L5 (.int 0))) (.sub L5 (.int 0))))
(.cons (.ifS (.boo true (K2 (.cmp .LtE L8 L6) (.cmp .LtE L6 L9))) (.cons (.ret (.tup (K3 (.int 1) L6 (.int 0)))) .nil) Ss.nil)
(.cons (.ret (.tup (K3 (.int 0) L6 (.ite (.cmp .Eq L2 (Gl "X_UN" 13)) (.int 220) (.int 221))))) .nil)))))))))))))))))))}
noncomputable def f_law_found:Fn:={name:=So "_law_found",np:=1,names:=(sts ["e","out","x","inner","one","number"]),body:=(.cons (.asg 1 (.lst .nil))
(.cons (.forS 2 (.slcL L0 (.int 2)) (.cons (.ifS (.boo true (K2 (.isTup L2) (.cmp .Gt (.bif .len (K1 L2)) (.int 0)))) (.cons (.asg 3 (.ite (.isTup (.sub L2 (.int 0))) L2 (.tup (K1 L2))))
(.cons (.forS 4 L3 (.cons (.asg 1 (.bin .Add L1 (.call 50 (K1 L4)))) .nil)) .nil)) Ss.nil) .nil))
(.cons (.asg 5 (.call 23 (K1 L0)))
(.cons (.ret (.ite (.cmp .NotEq L5 (.int 0)) (.bin .Add L1 (.lst (K1 L5))) L1)) .nil))))}
noncomputable def f_law_unmarked:Fn:={name:=So "_law_unmarked",np:=1,names:=(sts ["e","out",""]),body:=(.cons (.ifS (.not (.isTup L0)) (.cons (.ret L0) .nil) Ss.nil)
(.cons (.cmpO 1 2 (.call 51 (K1 L2)) L0 .nil)
(.cons (.ifS (.boo true (K2 (.cmp .Gt (.bif .len (K1 L0)) (.int 4)) (.cmp .In (.sub L0 (.int 0)) (.tup (K2 (Gl "X_UN" 13) (Gl "X_CONV" 19)))))) (.cons (.setO 1 (.int 4) (.int 0)) .nil) Ss.nil)
(.cons (.ifS (.boo true (K2 (.cmp .Gt (.bif .len (K1 L0)) (.int 5)) (.cmp .Eq (.sub L0 (.int 0)) (Gl "X_BIN" 14)))) (.cons (.setO 1 (.int 5) (.int 0)) .nil) Ss.nil)
(.cons (.frz 1) (.cons (.ret (.bif .tuple (K1 L1))) .nil))))))}
noncomputable def f_law_as_meant:Fn:={name:=So "_law_as_meant",np:=2,names:=(sts ["rows","drawn","strict","plain","loose","meant","clean","at","row","one","under","want","",""]),body:=(.cons (.asg 2 (.call 46 (K2 L0 (.tup (K2 (.int 1) (.int 0))))))
(.cons (.asg 3 (.call 46 (K2 L0 (.tup (K2 (.int 0) (.int 0))))))
(.cons (.asg 4 (.call 46 (K2 L0 (.tup (K2 (.int 0) (.int 1))))))
(.cons (.ifS (.boo false (K4 (.cmp .Is L2 E.none) (.cmp .Is L3 E.none) (.cmp .Is L4 E.none) (.cmp .NotEq (.sub L3 (.int 1)) (.sub L2 (.int 1))))) (.cons (.ret (.bool false)) .nil) Ss.nil)
(.cons (.ifS (.cmp .NotEq (.call 51 (K1 (.sub (.sub L3 (.int 0)) (.neg (.int 1))))) (.call 51 (K1 (.sub (.sub L2 (.int 0)) (.neg (.int 1)))))) (.cons (.ret (.bool false)) .nil) Ss.nil)
(.cons (.newO 5)
(.cons (.newO 6)
(.cons (.forS 7 (.bif .range (K1 (.bif .len (K1 L0)))) (.cons (.asg 8 (.sub L0 L7))
(.cons (.asg 9 (.call 49 (K2 L8 (.comp 12 (.subO 5 L12) (.sub L8 (.int 5)) .nil))))
(.cons (.appO 5 L9)
(.cons (.asg 10 (.cmp .NotIn (.bool false) (.comp 13 (.subO 6 L13) (.sub L8 (.int 5)) .nil)))
(.cons (.appO 6 (.boo true (K2 L10 (.cmp .Eq (.sub L9 (.int 2)) (.int 0)))))
(.cons (.asg 11 (.tup (K3 (Gl "X_CONST" 1) (.sub L8 (.int 1)) (.sub L9 (.int 1)))))
(.cons (.ifS (.boo false (K3 (.cmp .NotEq (.sub (.sub L2 (.int 1)) L7) (.sub L9 (.int 2))) (.cmp .NotEq (.cmp .Eq (.sub (.sub L2 (.int 0)) L7) L11) (.cmp .Eq (.sub L9 (.int 0)) (.int 1))) (.cmp .NotEq (.call 45 (K1 (.sub (.sub L2 (.int 0)) L7))) (.cmp .Eq (.sub L9 (.int 0)) (.int 1))))) (.cons (.ret (.bool false)) .nil) Ss.nil)
(.cons (.ifS (.boo true (K3 (.subO 6 L7) (.cmp .Eq (.sub L9 (.int 0)) (.int 1)) (.boo false (K2 (.cmp .NotEq (.sub (.sub L4 (.int 0)) L7) L11) (.cmp .NotEq (.sub L1 L7) L11))))) (.cons (.ret (.bool false)) .nil) Ss.nil)
(.cons (.ifS (.cmp .NotIn (.sub (.sub L4 (.int 1)) L7) (.tup (K2 (.int 0) (.int 20)))) (.cons (.ret (.bool false)) .nil) Ss.nil)
(.cons (.ifS (.boo true (K3 L10 (.cmp .Gt (.sub L9 (.int 2)) (.int 20)) (.not (.call 53 (K3 L8 (.sub (.sub L4 (.int 0)) L7) (.sub L9 (.int 1))))))) (.cons (.ret (.bool false)) .nil) Ss.nil) .nil)))))))))))
(.cons (.ret (.boo false (K2 (.not (.subO 6 (.neg (.int 1)))) (.cmp .Eq (.call 51 (K1 (.sub (.sub L4 (.int 0)) (.neg (.int 1))))) (.call 51 (K1 (.sub (.sub L2 (.int 0)) (.neg (.int 1))))))))) .nil)))))))))}
noncomputable def f_law_turned:Fn:={name:=So "_law_turned",np:=3,names:=(sts ["row","e","n","low","high"]),body:=(.cons (.ifS (.cmp .In (.sub L0 (.int 2)) (.tup (K2 (Tx "/") (Tx "%")))) (.cons (.ret (.not (.call 45 (K1 L1)))) .nil) Ss.nil)
(.cons (.unp [3,4] (.call 37 (K1 (.sub L0 (.int 1)))))
(.cons (.ret (.boo true (K4 (.cmp .Eq (.slcH L1 (.int 2)) (.tup (K2 (Gl "X_CONST" 1) (.sub L0 (.int 1))))) (.cmp .LtE L3 (.sub L1 (.int 2))) (.cmp .LtE (.sub L1 (.int 2)) L4) (.cmp .Eq (.bin .Mod (.bin .Sub (.sub L1 (.int 2)) L2) (.bin .Add (.bin .Sub L4 L3) (.int 1))) (.int 0))))) .nil)))}
noncomputable def flaw:Fn:={name:=So "law",np:=1,names:=(sts ["script","given","w","k","rows","got","stands","told","marks","end","picks","","","",""]),body:=(.cons (.asg 0 (.slcH L0 (.int 40)))
(.cons (.asg 1 (.ite (.cmp .Gt (.bif .len (K1 L0)) (.int 0)) (.comp 11 (.bin .Mod L11 (.int 1000003)) L0 .nil) (.lst (.cons (.int 0) (.cons (.int 0) (.cons (.int 3) (.cons (.int 0) (.cons (.int 1) (.cons (.int 6) (.cons (.int 0) (.cons (.int 0) (.cons (.int 3) (.cons (.int 0) (.cons (.int 0) (.cons (.int 0) (.cons (.int 0) (.cons (.int 10) (.cons (.int 0) (.cons (.int 0) (.cons (.int 0) (.cons (.int 3) (.cons (.int 0) (.cons (.int 2) (K6 (.int 0) (.int 0) (.int 9) (.int 0) (.int 0) (.int 1)))))))))))))))))))))))))
(.cons (.newW 2 L1 (.int 0) (.bin .Add (.int 4) (.bin .FloorDiv (.bif .len (K1 L0)) (.int 8))))
(.cons (.asg 3 (.sub (.tup (.cons (Gl "I4" 7) (K6 (Gl "BOOL" 1) (Gl "STRING" 13) (Gl "U4" 8) (Gl "I8" 9) (Gl "BOOL" 1) (Gl "U8" 10)))) (.call 36 (K2 L2 (.int 7)))))
(.cons (.expr (.call 43 (K4 L2 L3 (.int 0) (.call 36 (K2 L2 (.int 3))))))
(.cons (.frzR 4 2)
(.cons (.asg 5 (.call 46 (K2 L4 E.none)))
(.cons (.ifS (.boo false (K2 (.cmp .Is L5 E.none) (.not (.call 52 (K2 L4 (.sub L5 (.int 0))))))) (.cons (.ret (.bool false)) .nil) Ss.nil)
(.cons (.unp [6,7,8] L5)
(.cons (.asg 9 (.sub L6 (.neg (.int 1))))
(.cons (.asgC 10 12 (.call 36 (K2 L2 (.int 6))) (.bif .range (K1 (.bif .len (K1 L4)))) .nil)
(.cons (.ifS (.boo false (K2 (.cmp .NotEq (.call 35 (K1 (.call 47 (K4 L4 L8 L6 (.bin .Mult (.lst (K1 (.int 0))) (.bif .len (K1 L4))))))) L9) (.cmp .NotEq (.call 35 (K1 L9)) L9))) (.cons (.ret (.bool false)) .nil) Ss.nil)
(.cons (.ifS (.cmp .NotEq (.call 35 (K1 (.call 47 (K4 L4 L8 L6 L10)))) L9) (.cons (.ret (.bool false)) .nil) Ss.nil)
(.cons (.ifS (.cmp .NotEq (.call 35 (K1 (.call 47 (K4 L4 L8 L6 (.comp 13 (.bin .Mod (.bin .Add L13 (.int 3)) (.int 6)) L10 .nil))))) L9) (.cons (.ret (.bool false)) .nil) Ss.nil)
(.cons (.ret (.cmp .Eq (.call 50 (K1 L9)) (.comp 14 L14 L7 (K1 (.cmp .NotEq L14 (.int 0)))))) .nil)))))))))))))))}
noncomputable def fns:Nat->Option Fn
|0=>some fint_range
|1=>some fis_number
|2=>some fparts_at
|3=>some fkids_of
|4=>some fwith_kids
|5=>some fcut
|6=>some fin_range
|7=>some ffold_width
|8=>some ffold_compare
|9=>some ffold_bits
|10=>some ffold_shift
|11=>some ffold_divide
|12=>some ffold_whole
|13=>some ffold_bin
|14=>some ffold_un
|15=>some ffold_conv
|16=>some fknown
|17=>some fnumeric
|18=>some fmade
|19=>some fas_constant
|20=>some fbin_known
|21=>some fzero_right
|22=>some fbin_result
|23=>some ffold_fault
|24=>some ffold_unary
|25=>some ffold_binary
|26=>some ffold_logic
|27=>some ffold_choice
|28=>some fis_constant_null
|29=>some fnull_turned
|30=>some ffold_convert
|31=>some ffold_default
|32=>some ftext_part
|33=>some ffold_concat
|34=>some ffold
|35=>some ffold_all
|36=>some f_law_take
|37=>some f_law_span
|38=>some f_law_value
|39=>some f_law_leaf
|40=>some f_law_number
|41=>some f_law_truth
|42=>some f_law_words
|43=>some f_law_grow
|44=>some f_law_put
|45=>some f_law_still
|46=>some f_law_parts
|47=>some f_law_whole
|48=>some f_law_two
|49=>some f_law_meant
|50=>some f_law_found
|51=>some f_law_unmarked
|52=>some f_law_as_meant
|53=>some f_law_turned
|_=>Option.none
noncomputable def constTab:List (Str×V):=[((Str.ofString "BOOL"),(.int 1)),((Str.ofString "CHAR"),(.int 2)),((Str.ofString "I1"),(.int 3)),((Str.ofString "U1"),(.int 4)),((Str.ofString "I2"),(.int 5)),((Str.ofString "U2"),(.int 6)),((Str.ofString "I4"),(.int 7)),((Str.ofString "U4"),(.int 8)),((Str.ofString "I8"),(.int 9)),((Str.ofString "U8"),(.int 10)),((Str.ofString "NINT"),(.int 11)),((Str.ofString "OBJECT"),(.int 12)),((Str.ofString "STRING"),(.int 13)),((Str.ofString "NULLK"),(.int 14)),((Str.ofString "BAD"),(.int 15)),((Str.ofString "X_CONST"),(.int 1)),((Str.ofString "X_LOCAL"),(.int 2)),((Str.ofString "X_FIELD"),(.int 4)),((Str.ofString "X_ELEM"),(.int 6)),((Str.ofString "X_LEN"),(.int 7)),((Str.ofString "X_CALL"),(.int 8)),((Str.ofString "X_NEW"),(.int 9)),((Str.ofString "X_NEWARR"),(.int 10)),((Str.ofString "X_ARRLIT"),(.int 11)),((Str.ofString "X_DEFAULT"),(.int 12)),((Str.ofString "X_UN"),(.int 13)),((Str.ofString "X_BIN"),(.int 14)),((Str.ofString "X_AND"),(.int 15)),((Str.ofString "X_OR"),(.int 16)),((Str.ofString "X_COND"),(.int 17)),((Str.ofString "X_COALESCE"),(.int 18)),((Str.ofString "X_CONV"),(.int 19)),((Str.ofString "X_IS"),(.int 20)),((Str.ofString "X_AS"),(.int 21)),((Str.ofString "X_ASSIGN"),(.int 22)),((Str.ofString "X_COMPOUND"),(.int 23)),((Str.ofString "X_DELEG"),(.int 25)),((Str.ofString "X_CONCAT"),(.int 26)),((Str.ofString "X_LIFT"),(.int 27)),((Str.ofString "X_LIFTUN"),(.int 28)),((Str.ofString "X_AWAIT"),(.int 30)),((Str.ofString "X_SEQ"),(.int 31)),((Str.ofString "X_REF"),(.int 33)),((Str.ofString "X_PROP"),(.int 34)),((Str.ofString "X_BASECTOR"),(.int 35)),((Str.ofString "X_FNREF"),(.int 36)),((Str.ofString "CV_NUM"),(.int 1)),((Str.ofString "CV_REF"),(.int 2)),((Str.ofString "CV_CAST"),(.int 3)),((Str.ofString "CV_BOX"),(.int 4)),((Str.ofString "CV_NULL"),(.int 8)),((Str.ofString "CV_SAME"),(.int 10)),((Str.ofString "KS_ONE"),(.int 1)),((Str.ofString "KS_MAYBE"),(.int 2)),((Str.ofString "KS_ROW"),(.int 3)),((Str.ofString "FD_OVERFLOW"),(.int 220)),((Str.ofString "FD_CONVERT"),(.int 221)),((Str.ofString "FD_ZERO"),(.int 20)),((Str.ofString "COMPARES"),(.tup [(.str (Str.ofString "==")),(.str (Str.ofString "!=")),(.str (Str.ofString "<")),(.str (Str.ofString "<=")),(.str (Str.ofString ">")),(.str (Str.ofString ">="))])),((Str.ofString "_law_E"),(.int 40)),((Str.ofString "_law_C"),(.int 41))]
end
noncomputable def isW(wa:Option (Addr×Option Addr))(b:Addr):Prop:=∃p,wa=some p/\(b=p.1\/p.2=some b)
noncomputable def TupAt(h:Heap)(a:Addr)(vs:Array Value):Prop:=∃n,h.get? a=some {cls:=.type "tuple",dict:=none,data:=.seq vs n,slots:=#[]}
noncomputable def LstAt(h:Heap)(a:Addr)(vs:Array Value):Prop:=∃n,h.get? a=some {cls:=.type "list",dict:=none,data:=.seq vs n,slots:=#[]}
theorem TupAt.is{h:Heap}{a:Addr}{vs:Array Value}:TupAt h a vs->h.IsTuple a vs:=λ⟨n,e⟩=>⟨_,e,rfl,n,rfl⟩
theorem LstAt.is{h:Heap}{a:Addr}{vs:Array Value}:LstAt h a vs->h.IsList a vs:=λ⟨n,e⟩=>⟨_,e,rfl,n,rfl⟩
theorem TupAt.isTup{h:Heap}{a:Addr}{vs:Array Value}:TupAt h a vs->IsTup h a vs:=λ⟨n,e⟩=>⟨_,e,rfl,n,rfl⟩
theorem TupAt.uniq{h:Heap}{a:Addr}{vs ws:Array Value}(x:TupAt h a vs)(y:TupAt h a ws):vs=ws:=x.elim λn e=>y.elim λm q=>(Data.seq.inj (congrArg Obj.data (Option.some.inj (e.symm.trans q)))).1
theorem LstAt.uniq{h:Heap}{a:Addr}{vs ws:Array Value}(x:LstAt h a vs)(y:LstAt h a ws):vs=ws:=x.elim λn e=>y.elim λm q=>(Data.seq.inj (congrArg Obj.data (Option.some.inj (e.symm.trans q)))).1
theorem TupAt.notLst{h:Heap}{a:Addr}{vs ws:Array Value}(x:TupAt h a vs)(y:LstAt h a ws):False:=x.elim λn e=>y.elim λm q=>absurd (Value.type.inj (congrArg Obj.cls (Option.some.inj (e.symm.trans q)))) (nofun)
mutual
inductive Rep(wa:Option (Addr×Option Addr))(Bad:Addr->Prop)(h:Heap):Value->V->Prop
 |none:Rep wa Bad h .none .none
 |bool (b:Bool):Rep wa Bad h (.bool b) (.bool b)
 |int (i:Int) (t:Tok):Rep wa Bad h (.int i t) (.int i)
 |str (x:Str) (t:Tok):Rep wa Bad h (.str x t) (.str x)
 |tup {a:Addr} {vs:Array Value} {xs:List V}:¬Bad a->TupAt h a vs->Reps wa Bad h vs.toList xs->Rep wa Bad h (.ref a) (.tup xs)
 |lst {a:Addr} {vs:Array Value} {xs:List V}:¬Bad a->LstAt h a vs->Reps wa Bad h vs.toList xs->Rep wa Bad h (.ref a) (.lst xs)
 |rng {a:Addr} {n:Int} {t u v:Tok}:¬Bad a->n<=lim->IsRange h a 0 n 1 t u v->Rep wa Bad h (.ref a) (.rng n)
 |w {p:Addr×Option Addr}:wa=some p->Rep wa Bad h (.ref p.1) .w
inductive Reps(wa:Option (Addr×Option Addr))(Bad:Addr->Prop)(h:Heap):List Value->List V->Prop
 |nil:Reps wa Bad h [] []
 |cons {v:Value} {x:V} {vs:List Value} {xs:List V}:Rep wa Bad h v x->Reps wa Bad h vs xs->Reps wa Bad h (v::vs) (x::xs)
end
section
variable{wa:Option (Addr×Option Addr)}{Bad Bad':Addr->Prop}{h h':Heap}
noncomputable def RepI(wa:Option (Addr×Option Addr))(Bad:Addr->Prop)(h:Heap)(v:Value):V->Prop
 |.none=>v=.none
 |.bool b=>v=.bool b
 |.int i=>∃t,v=.int i t
 |.str x=>∃t,v=.str x t
 |.tup xs=>∃a vs,v=.ref a/\¬Bad a/\TupAt h a vs/\Reps wa Bad h vs.toList xs
 |.lst xs=>∃a vs,v=.ref a/\¬Bad a/\LstAt h a vs/\Reps wa Bad h vs.toList xs
 |.rng n=>∃a t u w,v=.ref a/\¬Bad a/\n<=lim/\IsRange h a 0 n 1 t u w
 |.w=>∃p,wa=some p/\v=.ref p.1
theorem Rep.inv{v:Value}{x:V}(r:Rep wa Bad h v x):RepI wa Bad h v x:=by
 cases r with
 |none=>exact rfl
 |bool=>exact rfl
 |int _ t=>exact⟨t,rfl⟩
 |str _ t=>exact⟨t,rfl⟩
 |tup n a r=>exact⟨_,_,rfl,n,a,r⟩
 |lst n a r=>exact⟨_,_,rfl,n,a,r⟩
 |rng n l a=>exact⟨_,_,_,_,rfl,n,l,a⟩
 |w e=>exact⟨_,e,rfl⟩
theorem Rep.elimP{P:Value->V->Prop}(c0:P .none .none)(c1:∀b,P (.bool b) (.bool b))(c2:∀i t,P (.int i t) (.int i))(c3:∀x t,P (.str x t) (.str x))(c4:∀a vs xs,TupAt h a vs->Reps wa Bad h vs.toList xs->V.plains xs=true->P (.ref a) (.tup xs))
  (c5:∀a vs xs,LstAt h a vs->Reps wa Bad h vs.toList xs->V.plains xs=true->P (.ref a) (.lst xs)){v:Value}{x:V}(r:Rep wa Bad h v x)(p:x.plain=true):P v x:=by
 cases r with
 |none=>exact c0
 |bool b=>exact c1 b
 |int i t=>exact c2 i t
 |str x t=>exact c3 x t
 |tup _ a r=>exact c4 _ _ _ a r p
 |lst _ a r=>exact c5 _ _ _ a r p
 |rng=>exact nomatch p
 |w=>exact nomatch p
theorem Reps.ind{P:List Value->List V->Prop}(c0:P [] [])(c1:∀{v x vs xs},Rep wa Bad h v x->Reps wa Bad h vs xs->P vs xs->P (v::vs) (x::xs)){vs:List Value}{xs:List V}(r:Reps wa Bad h vs xs):P vs xs:=
 Reps.rec (motive_1:=λ_ _ _=>True) (motive_2:=λvs xs _=>P vs xs) trivial (λ_=>trivial) (λ_ _=>trivial) (λ_ _=>trivial) (λ_ _ _ _=>trivial) (λ_ _ _ _=>trivial) (λ_ _ _=>trivial) (λ_=>trivial) c0 (λr q _ ih=>c1 r q ih) r
theorem bad_mono(hb:∀b,Bad' b->Bad b\/h.get? b=Option.none){a:Addr}{o:Obj}(n:¬Bad a)(e:h.get? a=some o):¬Bad' a:=λq=>(hb a q).elim n λz=>nomatch z.symm.trans e
theorem Rep.mono(hb:∀b,Bad' b->Bad b\/h.get? b=Option.none)(hk:∀b o,¬Bad b->h.get? b=some o->h'.get? b=some o){v:Value}{x:V}(r:Rep wa Bad h v x):Rep wa Bad' h' v x:=
 Rep.rec (motive_1:=λv x _=>Rep wa Bad' h' v x) (motive_2:=λvs xs _=>Reps wa Bad' h' vs xs) .none .bool .int .str (λn a _ ih=>a.elim λk e=>.tup (bad_mono hb n e) ⟨k,hk _ _ n e⟩ ih) (λn a _ ih=>a.elim λk e=>.lst (bad_mono hb n e) ⟨k,hk _ _ n e⟩ ih)
  (λn l e=>.rng (bad_mono hb n e) l (hk _ _ n e)) .w .nil (λ_ _ a b=>.cons a b) r
theorem Reps.mono(hb:∀b,Bad' b->Bad b\/h.get? b=Option.none)(hk:∀b o,¬Bad b->h.get? b=some o->h'.get? b=some o){vs:List Value}{xs:List V}(r:Reps wa Bad h vs xs):Reps wa Bad' h' vs xs:=
 r.ind (P:=λvs xs=>Reps wa Bad' h' vs xs) .nil λr _ ih=>.cons (r.mono hb hk) ih
theorem Rep.keep(hk:∀b o,h.get? b=some o->h'.get? b=some o){v:Value}{x:V}(r:Rep wa Bad h v x):Rep wa Bad h' v x:=
 r.mono (λ_ q=>.inl q) λb o _ e=>hk b o e
theorem Reps.keep(hk:∀b o,h.get? b=some o->h'.get? b=some o){v:List Value}{x:List V}(r:Reps wa Bad h v x):Reps wa Bad h' v x:=
 r.mono (λ_ q=>.inl q) λb o _ e=>hk b o e
theorem Reps.length{vs:List Value}{xs:List V}(r:Reps wa Bad h vs xs):vs.length=xs.length:=r.ind (P:=λvs xs=>vs.length=xs.length) rfl λ_ _ ih=>congrArg (·+1) ih
theorem Reps.get{vs:List Value}{xs:List V}(r:Reps wa Bad h vs xs){i:Nat}{x:V}:xs[i]?=some x->∃v,vs[i]?=some v/\Rep wa Bad h v x:=
 r.ind (P:=λvs xs=>∀i x,xs[i]?=some x->∃v,vs[i]?=some v/\Rep wa Bad h v x) (λi x e=>nomatch List.getElem?_nil.symm.trans e) (λ{v _ _ _} r _ ih i x=>match i with
  |0=>λe=>⟨v,rfl,Option.some.inj e▸r⟩
  |i+1=>ih i x) i x
theorem Reps.append{vs:List Value}{xs:List V}{vs':List Value}{xs':List V}(r:Reps wa Bad h vs xs)(q:Reps wa Bad h vs' xs'):Reps wa Bad h (vs++vs') (xs++xs'):=
 r.ind (P:=λvs xs=>Reps wa Bad h (vs++vs') (xs++xs')) q λr _ ih=>.cons r ih
theorem Reps.take{vs:List Value}{xs:List V}(n:Nat)(r:Reps wa Bad h vs xs):Reps wa Bad h (vs.take n) (xs.take n):=
 r.ind (P:=λvs xs=>∀n,Reps wa Bad h (vs.take n) (xs.take n)) (λn=>match n with
  |0=>.nil
  |_+1=>.nil) (λr _ ih n=>match n with
  |0=>.nil
  |n+1=>.cons r (ih n)) n
theorem Reps.drop{vs:List Value}{xs:List V}(n:Nat)(r:Reps wa Bad h vs xs):Reps wa Bad h (vs.drop n) (xs.drop n):=
 r.ind (P:=λvs xs=>∀n,Reps wa Bad h (vs.drop n) (xs.drop n)) (λn=>match n with
  |0=>.nil
  |_+1=>.nil) (λr q ih n=>match n with
  |0=>.cons r q
  |n+1=>ih n) n
theorem Reps.set{vs:List Value}{xs:List V}{v:Value}{x:V}(n:Nat)(r:Reps wa Bad h vs xs)(p:Rep wa Bad h v x):Reps wa Bad h (vs.set n v) (xs.set n x):=
 r.ind (P:=λvs xs=>∀n,Reps wa Bad h (vs.set n v) (xs.set n x)) (λn=>.nil) (λr q ih n=>match n with
  |0=>.cons p q
  |n+1=>.cons r (ih n)) n
theorem Reps.replicate{v:Value}{x:V}(r:Rep wa Bad h v x):∀n,Reps wa Bad h (List.replicate n v) (List.replicate n x)
 |0=>.nil
 |n+1=>.cons r (Reps.replicate r n)
end
section
section
variable{wa:Option (Addr×Option Addr)}{Bad:Addr->Prop}{prog:Program}{w:World}{A:Around}{E:Value->Shared->Prop}{s:Shared}
open SeqAt
noncomputable def pairB(xs ys:List V)(j:Nat):Bool:=match xs[j]?,ys[j]? with
 |some x,some y=>x.beq y
 |_,_=>true
theorem beqs_eq:∀xs ys:List V,((List.range (min xs.length ys.length)).all (pairB xs ys)&&xs.length==ys.length)=V.beqs xs ys
 |[],[]=>rfl
 |[],_::_=>rfl
 |_::_,[]=>rfl
 |x::xs,y::ys=>by
  have ih:=beqs_eq xs ys
  show _=(x.beq y&&V.beqs xs ys)
  rw[←ih,List.length_cons,List.length_cons,Nat.add_min_add_right,List.range_succ_eq_map,List.all_cons,List.all_map,Bool.and_assoc]
  exact congrArg (λb=>x.beq y&&(_&&b)) (Bool.eq_iff_iff.mpr ⟨λh=>beq_iff_eq.mpr (Nat.succ.inj (eq_of_beq h)),λh=>beq_iff_eq.mpr (congrArg (·+1) (eq_of_beq h))⟩)
theorem room_here{u a b:Nat}(h:u+min a b<cLine):u<cLine:=Nat.lt_of_le_of_lt (Nat.le_add_right _ _) h
theorem room_in{u a b:Nat}(h:u+min (a+1) (b+1)<cLine):u+1+min a b<cLine:=by rw[Nat.add_min_add_right]at h;exact(Nat.add_right_comm u 1 _▸h:)
theorem min_le{a b c d:Nat}(h1:a<=c)(h2:b<=d):min a b<=min c d:=Nat.le_min.mpr ⟨Nat.le_trans (Nat.min_le_left ..) h1,Nat.le_trans (Nat.min_le_right ..) h2⟩
theorem room_head{u a b c d:Nat}(h:u+min (max a b) (max c d)<cLine):u+min a c<cLine:=Nat.lt_of_le_of_lt (Nat.add_le_add_left (min_le (Nat.le_max_left ..) (Nat.le_max_left ..)) u) h
theorem room_tail{u a b c d:Nat}(h:u+min (max a b) (max c d)<cLine):u+min b d<cLine:=Nat.lt_of_le_of_lt (Nat.add_le_add_left (min_le (Nat.le_max_right ..) (Nat.le_max_right ..)) u) h
theorem plains_i{x:V}{xs:List V}(h:V.plains (x::xs)=true):x.plain=true/\V.plains xs=true:=Bool.and_eq_true_iff.mp h
structure Cm(A:Around)(s:Shared)(a b:Value)(k:Bool):Prop where
 e:EqAt A s a b k
 r:RcAt A s a b k
 n:RcNeAt A s a b (!k)
theorem rep_ref{P:V->Prop}{l:Addr}{y:V}(r:Rep wa Bad s.heap (.ref l) y)(p:y.plain=true)(ht:∀ws ys,TupAt s.heap l ws->Reps wa Bad s.heap ws.toList ys->V.plains ys=true->P (.tup ys))(hl:∀ws ys,LstAt s.heap l ws->Reps wa Bad s.heap ws.toList ys->V.plains ys=true->P (.lst ys)):P y:=
 r.elimP (P:=λb y=>.ref l=b->P y) (λe=>nomatch e) (λ_ e=>nomatch e) (λ_ _ e=>nomatch e) (λ_ _ e=>nomatch e) (λa ws ys h q p e=>ht ws ys (Value.ref.inj e▸h) q p) (λa ws ys h q p e=>hl ws ys (Value.ref.inj e▸h) q p) p rfl
mutual
theorem rep_uniq:∀(x y:V){a:Value},x.plain=true->y.plain=true->Rep wa Bad s.heap a x->Rep wa Bad s.heap a y->x=y
 |.none,y,a,_,py,r,q=>q.elimP (P:=λb y=>b=.none->.none=y) (λ_=>rfl) (λ_ e=>nomatch e) (λ_ _ e=>nomatch e) (λ_ _ e=>nomatch e) (λ_ _ _ _ _ _ e=>nomatch e) (λ_ _ _ _ _ _ e=>nomatch e) py r.inv
 |.bool k,y,a,_,py,r,q=>q.elimP (P:=λb y=>b=.bool k->.bool k=y) (λe=>nomatch e) (λ_ e=>congrArg V.bool (Value.bool.inj e).symm) (λ_ _ e=>nomatch e) (λ_ _ e=>nomatch e) (λ_ _ _ _ _ _ e=>nomatch e) (λ_ _ _ _ _ _ e=>nomatch e) py r.inv
 |.int k,y,a,_,py,r,q=>let⟨t,e⟩:=r.inv;q.elimP (P:=λb y=>b=.int k t->.int k=y) (λe=>nomatch e) (λ_ e=>nomatch e) (λ_ _ e=>congrArg V.int (Value.int.inj e).1.symm) (λ_ _ e=>nomatch e) (λ_ _ _ _ _ _ e=>nomatch e) (λ_ _ _ _ _ _ e=>nomatch e) py e
 |.str k,y,a,_,py,r,q=>let⟨t,e⟩:=r.inv;q.elimP (P:=λb y=>b=.str k t->.str k=y) (λe=>nomatch e) (λ_ e=>nomatch e) (λ_ _ e=>nomatch e) (λ_ _ e=>congrArg V.str (Value.str.inj e).1.symm) (λ_ _ _ _ _ _ e=>nomatch e) (λ_ _ _ _ _ _ e=>nomatch e) py e
 |.tup xs,y,a,px,py,r,q=>let⟨l,vs,e,_,ha,rs⟩:=r.inv
  rep_ref (P:=λy=>.tup xs=y) (e▸q) py (λws ys h qs p=>congrArg V.tup (reps_uniq xs ys px p rs (ha.uniq h▸qs))) λws ys h _ _=>(ha.notLst h).elim
 |.lst xs,y,a,px,py,r,q=>let⟨l,vs,e,_,ha,rs⟩:=r.inv
  rep_ref (P:=λy=>.lst xs=y) (e▸q) py (λws ys h _ _=>(h.notLst ha).elim) λws ys h qs p=>congrArg V.lst (reps_uniq xs ys px p rs (ha.uniq h▸qs))
 |.rng _,_,_,px,_,_,_=>nomatch px
 |.w,_,_,px,_,_,_=>nomatch px
theorem reps_uniq:∀(xs ys:List V){vs:List Value},V.plains xs=true->V.plains ys=true->Reps wa Bad s.heap vs xs->Reps wa Bad s.heap vs ys->xs=ys
 |[],ys,vs,_,_,r,q=>(List.eq_nil_of_length_eq_zero (q.length.symm.trans r.length)).symm
 |x::xs,[],vs,_,_,r,q=>nomatch r.length.symm.trans q.length
 |x::xs,y::ys,vs,px,py,r,q=>by
  cases r with
  |cons r rs=>cases q with
   |cons q qs=>exact congr (congrArg List.cons (rep_uniq x y (plains_i px).1 (plains_i py).1 r q)) (reps_uniq xs ys (plains_i px).2 (plains_i py).2 rs qs)
end
theorem cm_tup{A:Around}{a b:Addr}{vs ws:Array Value}{xs ys:List V}(ha:TupAt s.heap a vs)(hb:TupAt s.heap b ws)(r:Reps wa Bad s.heap vs.toList xs)(q:Reps wa Bad s.heap ws.toList ys)(px:V.plains xs=true)(py:V.plains ys=true)
  (he:∀j (h1:j<vs.size) (h2:j<ws.size),EqAt A.in1 s vs[j] ws[j] (pairB xs ys j))(hu:A.units<cLine):Cm A s (.ref a) (.ref b) (V.beqs xs ys):=by
 have e:((List.range (min vs.size ws.size)).all (pairB xs ys)&&vs.size==ws.size)=V.beqs xs ys:=by rw[show vs.size=xs.length from r.length,show ws.size=ys.length from q.length];exact beqs_eq xs ys
 have k1:=e▸RcAt.tuples ha.is hb.is hu he
 have k2:=e▸RcNeAt.tuples ha.is hb.is hu he
 refine⟨?_,k1,k2⟩
 by_cases h:a=b
 ·cases h
  rw[reps_uniq xs ys px py r (ha.uniq hb▸q),beqs_refl ys py]
  exact .same _
 ·exact .of_refs h k1
theorem cm_lst{A:Around}{a b:Addr}{vs ws:Array Value}{xs ys:List V}(ha:LstAt s.heap a vs)(hb:LstAt s.heap b ws)(r:Reps wa Bad s.heap vs.toList xs)(q:Reps wa Bad s.heap ws.toList ys)(px:V.plains xs=true)(py:V.plains ys=true)
  (he:∀j (h1:j<vs.size) (h2:j<ws.size),EqAt A.in1 s vs[j] ws[j] (pairB xs ys j))(hu:A.units<cLine):Cm A s (.ref a) (.ref b) (V.beqs xs ys):=by
 have e:=beqs_eq xs ys
 have e1:vs.size=xs.length:=r.length
 have e2:ws.size=ys.length:=q.length
 have k:RcAt A s (.ref a) (.ref b) (V.beqs xs ys)/\RcNeAt A s (.ref a) (.ref b) (!V.beqs xs ys):=by
  rw[←e,←e1,←e2]
  by_cases hsz:vs.size=ws.size
  ·rw[←hsz,Nat.min_self,beq_self_eq_true,Bool.and_true]
   exact⟨RcAt.lists ha.is hb.is hsz hu he,RcNeAt.lists ha.is hb.is hsz hu he⟩
  ·rw[show(vs.size==ws.size)=false from beq_false_of_ne hsz,Bool.and_false]
   exact⟨RcAt.lists_lengths ha.is hb.is (bne_iff_ne.mpr hsz) hu,RcNeAt.lists_lengths ha.is hb.is (bne_iff_ne.mpr hsz) hu⟩
 refine⟨?_,k.1,k.2⟩
 by_cases h:a=b
 ·cases h
  rw[reps_uniq xs ys px py r (ha.uniq hb▸q),beqs_refl ys py]
  exact .same _
 ·exact .of_refs h k.1
mutual
theorem cm_rep:∀(x y:V){A:Around}{a b:Value},Rep wa Bad s.heap a x->Rep wa Bad s.heap b y->x.plain=true->y.plain=true->A.units+min x.depth y.depth<cLine->Cm A s a b (x.beq y)
 |.none,y,A,a,b,r,q,_,py,hu=>(r.inv:a=.none)▸have h0:=room_here hu
  q.elimP (P:=λb y=>Cm A s .none b (V.none.beq y)) ⟨.same _,.none_none,.none_none⟩ (λ_=>⟨.none_bool _,.none_bool _,.none_bool _⟩) (λ_ _=>⟨.none_int _ _,.none_int _ _,.none_int _ _⟩) (λ_ _=>⟨.none_str _ _,.none_str _ _,.none_str _ _⟩)
   (λ_ _ _ h _ _=>⟨.none_tuple h.is h0,.none_tuple h.is h0,.none_tuple h.is h0⟩) (λ_ _ _ h _ _=>⟨.none_list h.is h0,.none_list h.is h0,.none_list h.is h0⟩) py
 |.bool k,y,A,a,b,r,q,_,py,hu=>(r.inv:a=.bool k)▸have h0:=room_here hu
  q.elimP (P:=λb y=>Cm A s (.bool k) b ((V.bool k).beq y)) ⟨.bool_none _,.bool_none _,.bool_none _⟩ (λ_=>⟨.bool_bool _ _,.bool_bool _ _,.bool_bool _ _⟩) (λ_ _=>⟨.bool_int _ _ _,.bool_int _ _ _,.bool_int _ _ _⟩) (λ_ _=>⟨.bool_str _ _ _,.bool_str _ _ _,.bool_str _ _ _⟩)
   (λ_ _ _ h _ _=>⟨.bool_tuple _ h.is h0,.bool_tuple _ h.is h0,.bool_tuple _ h.is h0⟩) (λ_ _ _ h _ _=>⟨.bool_list _ h.is h0,.bool_list _ h.is h0,.bool_list _ h.is h0⟩) py
 |.int k,y,A,a,b,r,q,_,py,hu=>let⟨t,e⟩:=r.inv;e▸have h0:=room_here hu
  q.elimP (P:=λb y=>Cm A s (.int k t) b ((V.int k).beq y)) ⟨.int_none _ _,.int_none _ _,.int_none _ _⟩ (λ_=>⟨.int_bool _ _ _,.int_bool _ _ _,.int_bool _ _ _⟩) (λ_ _=>⟨.int_int _ _ _ _,.int_int _ _ _ _,.int_int _ _ _ _⟩) (λ_ _=>⟨.int_str _ _ _ _,.int_str _ _ _ _,.int_str _ _ _ _⟩)
   (λ_ _ _ h _ _=>⟨.int_tuple _ _ h.is h0,.int_tuple _ _ h.is h0,.int_tuple _ _ h.is h0⟩) (λ_ _ _ h _ _=>⟨.int_list _ _ h.is h0,.int_list _ _ h.is h0,.int_list _ _ h.is h0⟩) py
 |.str k,y,A,a,b,r,q,_,py,hu=>let⟨t,e⟩:=r.inv;e▸have h0:=room_here hu
  q.elimP (P:=λb y=>Cm A s (.str k t) b ((V.str k).beq y)) ⟨.str_none _ _,.str_none _ _,.str_none _ _⟩ (λ_=>⟨.str_bool _ _ _,.str_bool _ _ _,.str_bool _ _ _⟩) (λ_ _=>⟨.str_int _ _ _ _,.str_int _ _ _ _,.str_int _ _ _ _⟩) (λ_ _=>⟨.str_str _ _ _ _,.str_str _ _ _ _,.str_str _ _ _ _⟩)
   (λ_ _ _ h _ _=>⟨.str_tuple _ _ h.is h0,.str_tuple _ _ h.is h0,.str_tuple _ _ h.is h0⟩) (λ_ _ _ h _ _=>⟨.str_list _ _ h.is h0,.str_list _ _ h.is h0,.str_list _ _ h.is h0⟩) py
 |.tup xs,y,A,a,b,r,q,px,py,hu=>let⟨l,vs,e,_,ha,rs⟩:=r.inv;e▸have h0:=room_here hu
  q.elimP (P:=λb y=>A.units+min (V.tup xs).depth y.depth<cLine->Cm A s (.ref l) b ((V.tup xs).beq y)) (λ_=>⟨.tuple_none ha.is h0,.tuple_none ha.is h0,.tuple_none ha.is h0⟩) (λ_ _=>⟨.tuple_bool _ ha.is h0,.tuple_bool _ ha.is h0,.tuple_bool _ ha.is h0⟩) (λ_ _ _=>⟨.tuple_int _ _ ha.is h0,.tuple_int _ _ ha.is h0,.tuple_int _ _ ha.is h0⟩) (λ_ _ _=>⟨.tuple_str _ _ ha.is h0,.tuple_str _ _ ha.is h0,.tuple_str _ _ ha.is h0⟩)
   (λ_ _ ys h qs p hu=>cm_tup ha h rs qs px p (λj h1 h2=>cms_rep xs ys rs qs px p (room_in hu) j h1 h2) h0) (λ_ _ _ h _ _ _=>⟨.tuple_list ha.is h.is h0,.tuple_list ha.is h.is h0,.tuple_list ha.is h.is h0⟩) py hu
 |.lst xs,y,A,a,b,r,q,px,py,hu=>let⟨l,vs,e,_,ha,rs⟩:=r.inv;e▸have h0:=room_here hu
  q.elimP (P:=λb y=>A.units+min (V.lst xs).depth y.depth<cLine->Cm A s (.ref l) b ((V.lst xs).beq y)) (λ_=>⟨.list_none ha.is h0,.list_none ha.is h0,.list_none ha.is h0⟩) (λ_ _=>⟨.list_bool _ ha.is h0,.list_bool _ ha.is h0,.list_bool _ ha.is h0⟩) (λ_ _ _=>⟨.list_int _ _ ha.is h0,.list_int _ _ ha.is h0,.list_int _ _ ha.is h0⟩) (λ_ _ _=>⟨.list_str _ _ ha.is h0,.list_str _ _ ha.is h0,.list_str _ _ ha.is h0⟩)
   (λ_ _ _ h _ _ _=>⟨.list_tuple ha.is h.is h0,.list_tuple ha.is h.is h0,.list_tuple ha.is h.is h0⟩) (λ_ _ ys h qs p hu=>cm_lst ha h rs qs px p (λj h1 h2=>cms_rep xs ys rs qs px p (room_in hu) j h1 h2) h0) py hu
 |.rng _,_,_,_,_,_,_,px,_,_=>nomatch px
 |.w,_,_,_,_,_,_,px,_,_=>nomatch px
theorem cms_rep:∀(xs ys:List V){A:Around}{vs ws:List Value},Reps wa Bad s.heap vs xs->Reps wa Bad s.heap ws ys->V.plains xs=true->V.plains ys=true->
  A.units+min (V.depths xs) (V.depths ys)<cLine->∀j (h1:j<vs.length) (h2:j<ws.length),EqAt A s vs[j] ws[j] (pairB xs ys j)
 |[],_,_,_,_,r,_,_,_,_,j,h1,_=>absurd (r.length▸h1) (Nat.not_lt_zero _)
 |_::_,[],_,_,_,_,q,_,_,_,j,_,h2=>absurd (q.length▸h2) (Nat.not_lt_zero _)
 |x::xs,y::ys,A,vs,ws,r,q,px,py,hu,j,h1,h2=>by
  cases r with
  |cons r rs=>cases q with
   |cons q qs=>
    cases j with
    |zero=>exact(cm_rep x y r q (plains_i px).1 (plains_i py).1 (room_head hu)).e
    |succ j=>exact cms_rep xs ys rs qs (plains_i px).2 (plains_i py).2 (room_tail hu) j (Nat.lt_of_succ_lt_succ h1) (Nat.lt_of_succ_lt_succ h2)
end
theorem plains_mem:∀{xs:List V}{x:V},V.plains xs=true->x∈xs->x.plain=true
 |y::r,x,p,m=>(List.mem_cons.mp m).elim (λe=>e▸(plains_i p).1) (plains_mem (plains_i p).2)
theorem cmpIs_none{a:Value}{x:V}(ra:Rep wa Bad s.heap a x){Q:Bool->Shared->Prop}(h:Q (isN x) s):wpAny (model prog w) A (isSame a .none) Q E s:=by
 cases ra<;>exact wpAny_pure h
theorem reps_mem{vs:List Value}{xs:List V}(r:Reps wa Bad s.heap vs xs):∀v,v∈vs->∃x,x∈xs/\Rep wa Bad s.heap v x:=
 r.ind (P:=λvs xs=>∀v,v∈vs->∃x,x∈xs/\Rep wa Bad s.heap v x) (λ_ m=>nomatch m) λr _ ih v m=>(List.mem_cons.mp m).elim (λe=>⟨_,List.mem_cons_self ..,e▸r⟩) λm=>let⟨x,a,b⟩:=ih v m;⟨x,List.mem_cons_of_mem _ a,b⟩
open Classical in
noncomputable def eIn(wa:Option (Addr×Option Addr))(Bad:Addr->Prop)(h:Heap)(ys:List V)(x:V)(v:Value):Bool:=decide (∃y,y∈ys/\Rep wa Bad h v y/\y.beq x=true)
open Classical in
theorem eIn_eq{ys:List V}{x y:V}{v:Value}(py:V.plains ys=true)(hy:y∈ys)(r:Rep wa Bad s.heap v y):eIn wa Bad s.heap ys x v=y.beq x:=by
 unfold eIn
 cases hb:y.beq x with
 |true=>exact decide_eq_true ⟨y,hy,r,hb⟩
 |false=>exact decide_eq_false λ⟨z,hz,q,e⟩=>by rw[rep_uniq z y (plains_mem py hz) (plains_mem py hy) q r,hb]at e;exact nomatch e
theorem eIn_at{ys:List V}{x:V}{a:Value}{vs:Array Value}(py:V.plains ys=true)(px:x.plain=true)(ra:Rep wa Bad s.heap a x)(r:Reps wa Bad s.heap vs.toList ys)(hu:A.units+600<cLine)(hd:x.depth<=500):
  ∀v,v∈vs->EqAt A.in1 s v a (eIn wa Bad s.heap ys x v):=λv hv=>by
 obtain⟨y,hy,q⟩:=reps_mem r v (Array.mem_toList_iff.mpr hv)
 rw[eIn_eq py hy q]
 refine(cm_rep y x q ra (plains_mem py hy) px ?_).e
 have:min y.depth x.depth<=500:=Nat.le_trans (Nat.min_le_right ..) hd
 show A.units+1+_<_
 lia
theorem any_eIn{ys:List V}{x:V}{vs:Array Value}(py:V.plains ys=true)(r:Reps wa Bad s.heap vs.toList ys):vs.any (eIn wa Bad s.heap ys x)=ys.any λy=>y.beq x:=by
 rw[←Array.any_toList]
 exact r.ind (P:=λvs xs=>(∀y∈xs,y∈ys)->vs.any (eIn wa Bad s.heap ys x)=xs.any λy=>y.beq x) (λ_=>rfl) (λr _ ih h=>congr (congrArg or (eIn_eq py (h _ (List.mem_cons_self ..)) r)) (ih λy m=>h y (List.mem_cons_of_mem _ m))) λ_ m=>m
theorem cmp_eqv{a b:Value}{x y:V}{t k:Bool}(ra:Rep wa Bad s.heap a x)(rb:Rep wa Bad s.heap b y)(hu:A.units+600<cLine)(hc:(if(x.plain&&y.plain)=true/\min x.depth y.depth<=500 then some k else none)=some t):Cm A s a b (x.beq y)/\k=t:=by
 obtain⟨p,e⟩:=ite_some hc
 have q:=Bool.and_eq_true_iff.mp p.1
 exact⟨cm_rep x y ra rb q.1 q.2 (Nat.lt_of_le_of_lt (Nat.add_le_add_left (Nat.le_trans p.2 (by decide)) A.units) hu),e⟩
theorem cmp_on2{op:CmpOp}{f:Int->Int->Bool}{a b:Value}{x y:V}{t:Bool}{Q:Value->Shared->Prop}(ra:Rep wa Bad s.heap a x)(rb:Rep wa Bad s.heap b y)(hc:on2 (λa b=>some (f a b)) x y=some t)
  (H:∀i t j u,Q (.bool (f i j)) s->wpAny (model prog w) A (compareOp op (.int i t) (.int j u)) Q E s)(h:Q (.bool t) s):wpAny (model prog w) A (compareOp op a b) Q E s:=by
 obtain⟨i,j,rfl,rfl,e⟩:=on2_i hc
 obtain⟨t1,rfl⟩:=ra.inv
 obtain⟨t2,rfl⟩:=rb.inv
 exact H i t1 j t2 (Option.some.inj e▸h)
theorem cmp_ok{op:CmpOp}{a b:Value}{x y:V}{t:Bool}{Q:Value->Shared->Prop}(ra:Rep wa Bad s.heap a x)(rb:Rep wa Bad s.heap b y)(hu:A.units+600<cLine)(hc:cmpV op x y=some t)
  (h:Q (.bool t) s):wpAny (model prog w) A (compareOp op a b) Q E s:=by
 cases op with
 |Eq=>obtain⟨c,rfl⟩:=cmp_eqv ra rb hu hc;exact c.r prog w E Q h
 |NotEq=>obtain⟨c,rfl⟩:=cmp_eqv ra rb hu hc;exact c.n prog w E Q h
 |Lt=>exact cmp_on2 ra rb hc (λ_ _ _ _ h=>lt_int h) h
 |LtE=>exact cmp_on2 ra rb hc (λ_ _ _ _ h=>le_int h) h
 |Gt=>exact cmp_on2 ra rb hc (λ_ _ _ _ h=>gt_int h) h
 |GtE=>exact cmp_on2 ra rb hc (λ_ _ _ _ h=>ge_int h) h
 |In=>
  cases y with
  |tup ys=>
   obtain⟨p,rfl⟩:=ite_some hc
   obtain⟨l,vs,rfl,_,hl,r⟩:=rb.inv
   have q:=Bool.and_eq_true_iff.mp p.1
   exact in_tupleAt (eIn wa Bad s.heap ys x) hl.is (eIn_at q.2 q.1 ra r hu p.2) (any_eIn q.2 r▸h)
  |lst ys=>
   obtain⟨p,rfl⟩:=ite_some hc
   obtain⟨l,vs,rfl,_,hl,r⟩:=rb.inv
   have q:=Bool.and_eq_true_iff.mp p.1
   exact in_listAt (eIn wa Bad s.heap ys x) hl.is (eIn_at q.2 q.1 ra r hu p.2) (any_eIn q.2 r▸h)
  |_=>exact nomatch hc
 |NotIn=>
  cases y with
  |tup ys=>
   obtain⟨p,rfl⟩:=ite_some hc
   obtain⟨l,vs,rfl,_,hl,r⟩:=rb.inv
   have q:=Bool.and_eq_true_iff.mp p.1
   exact notIn_tupleAt (eIn wa Bad s.heap ys x) hl.is (eIn_at q.2 q.1 ra r hu p.2) (any_eIn q.2 r▸h)
  |lst ys=>
   obtain⟨p,rfl⟩:=ite_some hc
   obtain⟨l,vs,rfl,_,hl,r⟩:=rb.inv
   have q:=Bool.and_eq_true_iff.mp p.1
   exact notIn_listAt (eIn wa Bad s.heap ys x) hl.is (eIn_at q.2 q.1 ra r hu p.2) (any_eIn q.2 r▸h)
  |_=>exact nomatch hc
 |Is=>
  cases y with
  |none=>
   obtain rfl:b=.none:=rb.inv
   exact wpAny_bind (cmpIs_none ra (wpAny_pure (((beq_true _).symm.trans (Option.some.inj hc)).symm▸h)))
  |_=>exact nomatch hc
 |IsNot=>
  cases y with
  |none=>
   obtain rfl:b=.none:=rb.inv
   exact wpAny_bind (cmpIs_none ra (wpAny_pure (((beq_false _).symm.trans (Option.some.inj hc)).symm▸h)))
  |_=>exact nomatch hc
end
end
theorem lim_line:lim<=sizeLine:=by decide
theorem get_size(h:Heap):h.get? h.objs.size=none:=by
 cases e:h.get? h.objs.size with
 |none=>rfl
 |some o=>exact absurd (Heap.lt_size e) (Nat.lt_irrefl _)
section
variable{wa:Option (Addr×Option Addr)}{Bad:Addr->Prop}{prog:Program}{w:World}{A:Around}{E:Value->Shared->Prop}{s:Shared}
noncomputable def Kept(s s':Shared):Prop:=∃h tk,s'={s with heap:=h,toks:=tk}/\∀b o,s.heap.get? b=some o->h.get? b=some o
theorem Kept.refl(s:Shared):Kept s s:=⟨s.heap,s.toks,rfl,λ_ _ e=>e⟩
theorem Kept.tok(s:Shared)(t:Nat):Kept s {s with toks:=t}:=⟨s.heap,t,rfl,λ_ _ e=>e⟩
theorem Kept.push(s:Shared)(o:Obj):Kept s {s with heap:=s.heap.push o}:=⟨_,s.toks,rfl,λ_ _ e=>Heap.get?_push_of_some _ e⟩
theorem Kept.mk'(s:Shared){h:Heap}{tk:Nat}(hk:∀b o,s.heap.get? b=some o->h.get? b=some o):Kept s {s with heap:=h,toks:=tk}:=⟨h,tk,rfl,hk⟩
theorem Kept.trans{a b c:Shared}(x:Kept a b)(y:Kept b c):Kept a c:=by
 obtain⟨h,tk,rfl,k⟩:=x
 obtain⟨h',tk',rfl,k'⟩:=y
 exact⟨h',tk',rfl,λb o e=>k' b o (k b o e)⟩
theorem Kept.heap{a b:Shared}(x:Kept a b):∀c o,a.heap.get? c=some o->b.heap.get? c=some o:=by
 obtain⟨h,tk,rfl,k⟩:=x;exact k
theorem rep_push_tup(hB:∀b,s.heap.get? b=none->¬Bad b){vs:List Value}{xs:List V}(r:Reps wa Bad s.heap vs xs):
  Rep wa Bad (s.heap.push {cls:=.type "tuple",data:=.seq vs.toArray}) (.ref s.heap.objs.size) (.tup xs):=
 .tup (hB _ (get_size _)) ⟨0,Heap.get?_push_size _ rfl⟩ (r.keep λb o e=>Heap.get?_push_of_some _ e)
theorem rep_push_lst(hB:∀b,s.heap.get? b=none->¬Bad b){vs:List Value}{xs:List V}(r:Reps wa Bad s.heap vs xs):
  Rep wa Bad (s.heap.push {cls:=.type "list",data:=.seq vs.toArray}) (.ref s.heap.objs.size) (.lst xs):=
 .lst (hB _ (get_size _)) ⟨0,Heap.get?_push_size _ rfl⟩ (r.keep λb o e=>Heap.get?_push_of_some _ e)
theorem newTuple_ok(hB:∀b,s.heap.get? b=none->¬Bad b){vs:List Value}{xs:List V}{z:V}(r:Reps wa Bad s.heap vs xs)(hz:mkTup xs=some z){Q:Value->Shared->Prop}
  (h:∀v s',Kept s s'->Rep wa Bad s'.heap v z->Q v s'):wpAny (model prog w) A (newTuple vs) Q E s:=by
 obtain⟨l,rfl⟩:=ite_some hz
 exact wpAny_newObj_type (h _ _ (Kept.push s _) (rep_push_tup hB r)) (show vs.length<=sizeLine from r.length▸Nat.le_trans l lim_line)
theorem newList_ok(hB:∀b,s.heap.get? b=none->¬Bad b){vs:List Value}{xs:List V}{z:V}(r:Reps wa Bad s.heap vs xs)(hz:mkLst xs=some z){Q:Value->Shared->Prop}
  (h:∀v s',Kept s s'->Rep wa Bad s'.heap v z->Q v s'):wpAny (model prog w) A (newList vs) Q E s:=by
 obtain⟨l,rfl⟩:=ite_some hz
 exact wpAny_newObj_type (h _ _ (Kept.push s _) (rep_push_lst hB r)) (show vs.length<=sizeLine from r.length▸Nat.le_trans l lim_line)
theorem mulOk{a b:Int}(ha:a.natAbs<big)(hb:b.natAbs<big):IntMulOk a b:=by
 have h1:=intBits_le (k:=200) ha
 have h2:=intBits_le (k:=200) hb
 unfold IntMulOk Builtin.Int.intTooBig bitsLine
 simp only[Bool.and_eq_true,decide_eq_true_eq,not_and]
 intro _
 lia
theorem intBits_two:Builtin.Int.intBits 2=2:=by rfl
theorem replicate_foldl(v:Value)(n:Nat):List.foldl (λx1 x2=>x1++x2) #[] (List.replicate n #[v])=(List.replicate n v).toArray:=by
 have h:∀(n:Nat)(a:Array Value),List.foldl (λx1 x2=>x1++x2) a (List.replicate n #[v])=a++(List.replicate n v).toArray:=by
  intro n
  induction n with
  |zero=>intro a;rfl
  |succ n ih=>intro a;rw[List.replicate_succ,List.foldl_cons,ih];apply Array.ext';simp[List.replicate_succ]
 simpa using h n #[]
theorem pow_ok{b:Int}{t u:Tok}(h0:0<=b)(h1:b<=64){Q:Value->Shared->Prop}(h:Q (.int (2^b.toNat) s.toks) {s with toks:=s.toks+1}):wpAny (model prog w) A (binaryOp .Pow (.int 2 t) (.int b u)) Q E s:=by
 by_cases hb:b=0
 ·subst hb;exact AutoIntOps.pow_0 (by assumption) rfl h
 ·refine AutoIntOps.pow_4 h0 (by simpa using hb) (Bool.false_ne_true) (Bool.false_ne_true) ?_ h
  rw[intBits_two];unfold Builtin.Int.intTooBig bitsLine;simp;lia
theorem one_of{l:List Value}(h:l.length=1):∃v,l=[v]:=List.length_eq_one_iff.mp h
theorem rep_ok(hB:∀b,s.heap.get? b=none->¬Bad b){a:Value}{xs:List V}{k:Int}{u:Tok}{Q:Value->Shared->Prop}(ra:Rep wa Bad s.heap a (.lst xs))(c1:xs.length=1)(c2:0<=k)(c3:k<=lim)
  (h:∀v s',Kept s s'->Rep wa Bad s'.heap v (.lst (List.replicate k.toNat (xs.headD .none)))->Q v s'):wpAny (model prog w) A (binaryOp .Mult a (.int k u)) Q E s:=by
 refine cps λPP kk=>?_
 obtain⟨ad,vs,rfl,_,⟨n,ha⟩,r⟩:=ra.inv
 obtain⟨v,hv⟩:=one_of (r.length.trans c1)
 obtain⟨y,rfl⟩:=List.length_eq_one_iff.mp c1
 refine kk ?_
 obtain rfl:vs=#[v]:=Array.toList_inj.mp hv
 have r1:Rep wa Bad s.heap v y:=by cases r;assumption
 clear hv c1 r
 have c3:k<=1048576:=c3
 refine wpAny_binaryOp_repeat_ref (T:="list") (U:="int") rfl ⟨_,ha,rfl⟩ (λs'=>typeIs_int s' k u) noFill_list_mul F.fills_int_mul F.slot_int_rmul repeat_list F.slot_int_index.lookup
  (call_meets F.slot_int_rmul (typeIs_int s k u) F.entry_int_rmul (F.args_int_rmul_2 _ _) (int___rmul___int_list k u ad #[v] n)
   ⟨ha,rfl,⟨_,ha,rfl⟩,call_meets F.slot_list_mul ⟨_,ha,rfl⟩ F.entry_list_mul (F.args_list_mul_2 _ _)
    (AutoListH.list___mul___list_int_3 ad #[v] n k u ?_ ?_ ?_) ⟨ha,h _ _ (Kept.push s _) ?_⟩⟩)
 ·simp[Builtin.List.listFitsIndex];lia
 ·simp;exact Int.le_trans (by assumption) (by constructor)
 ·simp[Builtin.List.listTooLong,sizeLine];exact Int.le_trans (by assumption) (by constructor)
 ·have:=rep_push_lst hB (Reps.replicate r1 k.toNat)
  rw[←replicate_foldl]at this
  exact this
theorem int2{a b:Value}{x y:Int}(ra:Rep wa Bad s.heap a (.int x))(rb:Rep wa Bad s.heap b (.int y)):∃t u,a=.int x t/\b=.int y u:=let⟨t,e⟩:=ra.inv;let⟨u,q⟩:=rb.inv;⟨t,u,e,q⟩
theorem bin_on2{op:Operator}{f:Int->Int->Option V}{a b:Value}{x y z:V}{Q:Value->Shared->Prop}(ra:Rep wa Bad s.heap a x)(rb:Rep wa Bad s.heap b y)(hz:on2 f x y=some z)
  (H:∀i t j u,f i j=some z->wpAny (model prog w) A (binaryOp op (.int i t) (.int j u)) Q E s):wpAny (model prog w) A (binaryOp op a b) Q E s:=by
 obtain⟨i,j,rfl,rfl,e⟩:=on2_i hz
 obtain⟨t,u,rfl,rfl⟩:=int2 ra rb
 exact H i t j u e
theorem add_ok(hB:∀b,s.heap.get? b=none->¬Bad b){a b:Value}{x y z:V}{Q:Value->Shared->Prop}(ra:Rep wa Bad s.heap a x)(rb:Rep wa Bad s.heap b y)(hz:bAdd x y=some z)
  (h:∀v s',Kept s s'->Rep wa Bad s'.heap v z->Q v s'):wpAny (model prog w) A (binaryOp .Add a b) Q E s:=by
 cases x with
 |int i=>cases y with
  |int j=>
   obtain⟨t,u,rfl,rfl⟩:=int2 ra rb
   cases hz
   exact add_int (h _ _ (Kept.tok s _) (.int _ _))
  |_=>exact nomatch hz
 |str i=>cases y with
  |str j=>
   obtain⟨t,rfl⟩:=ra.inv
   obtain⟨u,rfl⟩:=rb.inv
   obtain⟨c,rfl⟩:=ite_some hz
   exact add_str (λt' tk=>h _ _ (Kept.tok s _) (.str _ _)) (Nat.le_trans c lim_line)
  |_=>exact nomatch hz
 |tup xs=>cases y with
  |tup ys=>
   obtain⟨l,vs,rfl,_,⟨n,ha⟩,r⟩:=ra.inv
   obtain⟨m,ws,rfl,_,⟨k,hb⟩,q⟩:=rb.inv
   have hz:(if xs≠[]/\ys≠[]then mkTup (xs++ys)else none)=some z:=hz
   by_cases c:xs≠[]/\ys≠[]
   ·rw[if_pos c]at hz
    obtain⟨l,rfl⟩:=ite_some hz
    have e1:vs.size=xs.length:=r.length
    have e2:ws.size=ys.length:=q.length
    refine P.add_tuple ha hb (λe=>c.1 ?_) (λe=>c.2 ?_) (h _ _ (Kept.push s _) ?_) (by rw[e1,e2,←List.length_append];exact Nat.le_trans l lim_line)
    ·exact List.length_eq_zero_iff.mp (e1.symm.trans (by simpa using e))
    ·exact List.length_eq_zero_iff.mp (e2.symm.trans (by simpa using e))
    ·have:=rep_push_tup hB (r.append q)
     rwa [←Array.toList_append,Array.toArray_toList]at this
   ·exact nomatch (if_neg c).symm.trans hz
  |_=>exact nomatch hz
 |lst xs=>cases y with
  |lst ys=>
   obtain⟨l,vs,rfl,_,⟨n,ha⟩,r⟩:=ra.inv
   obtain⟨m,ws,rfl,_,⟨k,hb⟩,q⟩:=rb.inv
   obtain⟨l,rfl⟩:=ite_some hz
   have e1:vs.size=xs.length:=r.length
   have e2:ws.size=ys.length:=q.length
   refine P.add_list ha hb (h _ _ (Kept.push s _) ?_) (by rw[e1,e2,←List.length_append];exact Nat.le_trans l lim_line)
   have:=rep_push_lst hB (r.append q)
   rwa [←Array.toList_append,Array.toArray_toList]at this
  |_=>exact nomatch hz
 |_=>exact nomatch hz
theorem mul_ok(hB:∀b,s.heap.get? b=none->¬Bad b){a b:Value}{x y z:V}{Q:Value->Shared->Prop}(ra:Rep wa Bad s.heap a x)(rb:Rep wa Bad s.heap b y)(hz:bMul x y=some z)
  (h:∀v s',Kept s s'->Rep wa Bad s'.heap v z->Q v s'):wpAny (model prog w) A (binaryOp .Mult a b) Q E s:=by
 cases y with
 |int j=>cases x with
  |int i=>
   obtain⟨t,u,rfl,rfl⟩:=int2 ra rb
   obtain⟨c,rfl⟩:=ite_some hz
   exact AutoIntOps.mul_0 (h _ _ (Kept.tok s _) (.int _ _)) (mulOk c.1 c.2)
  |lst xs=>
   obtain⟨u,rfl⟩:=rb.inv
   obtain⟨c,rfl⟩:=ite_some hz
   exact rep_ok hB ra c.1 c.2.1 c.2.2 h
  |_=>exact nomatch hz
 |_=>exact nomatch hz
theorem bin_ok(hB:∀b,s.heap.get? b=none->¬Bad b){op:Operator}{a b:Value}{x y z:V}{Q:Value->Shared->Prop}(ra:Rep wa Bad s.heap a x)(rb:Rep wa Bad s.heap b y)(hz:binV op x y=some z)
  (h:∀v s',Kept s s'->Rep wa Bad s'.heap v z->Q v s'):wpAny (model prog w) A (binaryOp op a b) Q E s:=by
 have k:∀{i:Int},some (V.int i)=some z->Q (.int i s.toks) {s with toks:=s.toks+1}:=λe=>h _ _ (Kept.tok s _) (Option.some.inj e▸.int _ _)
 cases op with
 |Add=>exact add_ok hB ra rb hz h
 |Sub=>exact bin_on2 ra rb hz λi t j u e=>sub_int (k e)
 |Mult=>exact mul_ok hB ra rb hz h
 |FloorDiv=>
  refine bin_on2 ra rb hz λi t j u e=>?_
  obtain⟨c,e⟩:=ite_some e
  refine floordiv_int c.1 (k (congrArg some e)) (.inl (PyProof.noPylong_of_log2 ?_))
  refine Nat.lt_of_lt_of_le ((Nat.log2_lt (by lia)).mpr (Nat.lt_of_lt_of_le c.2.2 (Nat.le_refl _))) (by decide)
 |Mod=>exact bin_on2 ra rb hz λi t j u e=>mod_int (ite_some e).1 (k (congrArg some (ite_some e).2))
 |Pow=>
  refine bin_on2 ra rb hz λi t j u e=>?_
  obtain⟨⟨rfl,h0,h1⟩,e'⟩:=ite_some e
  exact pow_ok h0 h1 (k (congrArg some e'))
 |LShift=>
  refine bin_on2 ra rb hz λi t j u e=>?_
  obtain⟨c,e⟩:=ite_some e
  exact lshift_int_small c.2.1 (by omega) c.1 (k (congrArg some e))
 |RShift=>exact bin_on2 ra rb hz λi t j u e=>rshift_int (ite_some e).1 (k (congrArg some (ite_some e).2))
 |BitAnd=>exact bin_on2 ra rb hz λi t j u e=>and_int (k e)
 |BitOr=>exact bin_on2 ra rb hz λi t j u e=>or_int (k e)
 |BitXor=>exact bin_on2 ra rb hz λi t j u e=>xor_int (k e)
 |_=>exact nomatch hz
end
section
variable{wa:Option (Addr×Option Addr)}{Bad:Addr->Prop}{prog:Program}{w:World}{A:Around}{E:Value->Shared->Prop}{s:Shared}
theorem subscripted_ops(slice:PySem.Expr)(o i:Value):∃ops,subscripted slice false o i=operate ops (getItem o i):=by
 cases slice with
 |Slice _ _ c _=>cases c<;>exact⟨_,rfl⟩
 |_=>exact⟨_,rfl⟩
theorem tail_ok{value slice:PySem.Expr}{o i:Value}{T id:String}{Q:Value->Shared->Prop}(hT:s.TypeIs o T)(hl:typeLookup (.type T) "__getitem__"=pure (some (.builtin id)))
  (h:wpAny (model prog w) A (getItem o i) Q E s):wpAny (model prog w) A (subscriptTail value slice o i) Q E s:=by
 obtain⟨ops,e⟩:=subscripted_ops slice o i
 exact tail_any hT hl h e
theorem seqIndex_neg{k:Int}{n:Nat}(h:k<0)(h2:0<=k+n):seqIndex? k n=some (k+n).toNat:=by
 unfold seqIndex?
 simp only[h,if_true]
 rw[if_pos (by simp;lia)]
theorem seqIndex_pos{k:Int}{n:Nat}(h:0<=k)(h2:k.toNat<n):seqIndex? k n=some k.toNat:=by
 unfold seqIndex?
 have h':¬k<0:=by lia
 simp only[h',if_false]
 rw[if_pos (by simp;lia)]
theorem ite_some'{α:Type}{c:Prop}[d:Decidable c]{o p:Option α}{z:α}(h:(if c then o else p)=some z):(c/\o=some z)\/(¬c/\p=some z):=by
 by_cases q:c
 ·exact .inl ⟨q,(if_pos q).symm.trans h⟩
 ·exact .inr ⟨q,(if_neg q).symm.trans h⟩
theorem get_arr{vs:Array Value}{j:Nat}{v:Value}(h:vs.toList[j]?=some v):vs[j]?=some v/\j<vs.size:=by
 rw[Array.getElem?_toList]at h
 exact⟨h,(Array.getElem?_eq_some_iff.mp h).1⟩
theorem sub_at{vs:Array Value}{xs:List V}{i:Int}{z:V}(r:Reps wa Bad s.heap vs.toList xs)(hz:subL xs i=some z):∃v,Rep wa Bad s.heap v z/\i.natAbs<=lim/\((0<=i/\vs[i.toNat]?=some v/\i.toNat<vs.size)\/(i<0/\0<=i+vs.size/\vs[(i+vs.size).toNat]?=some v)):=by
 have hl:(lim:Int)=1048576:=rfl
 have hl':lim=1048576:=rfl
 have e1:vs.size=xs.length:=r.length
 rcases ite_some' (show(if 0<=i/\i<=lim then xs[i.toNat]? else if -(lim:Int)<=i/\i<0/\0<=i+xs.length then xs[(i+xs.length).toNat]? else none)=some z from hz)with⟨c,q⟩|⟨c,q⟩
 ·obtain⟨v,hv,rv⟩:=r.get q
  exact⟨v,rv,by lia,.inl ⟨c.1,get_arr hv⟩⟩
 ·rcases ite_some' q with⟨c,q⟩|⟨_,q⟩
  ·obtain⟨v,hv,rv⟩:=r.get q
   rw[←e1]at hv c
   exact⟨v,rv,by omega,.inr ⟨c.2.1,c.2.2,(get_arr hv).1⟩⟩
  ·exact nomatch q
theorem getItem_lst{ad:Addr}{vs:Array Value}{xs:List V}{i:Int}{u:Tok}{z:V}{Q:Value->Shared->Prop}(ha:LstAt s.heap ad vs)(r:Reps wa Bad s.heap vs.toList xs)(hz:subL xs i=some z)
  (h:∀v,Rep wa Bad s.heap v z->Q v s):wpAny (model prog w) A (getItem (.ref ad) (.int i u)) Q E s:=by
 have hl:lim=1048576:=rfl
 obtain⟨v,rv,f,⟨c,e,_⟩|⟨c1,c2,e⟩⟩:=sub_at r hz
 ·exact wpAny_getItem_list ha.is c (by lia) e (h v rv)
 ·exact wpAny_getItem_list_neg ha.is c1 (by lia) (by lia) e (h v rv)
theorem getItem_ok{a b:Value}{x y z:V}{Q:Value->Shared->Prop}(ra:Rep wa Bad s.heap a x)(rb:Rep wa Bad s.heap b y)(hz:subV x y=some z)
  (h:∀v,Rep wa Bad s.heap v z->Q v s):wpAny (model prog w) A (getItem a b) Q E s:=by
 cases y with
 |int i=>
  obtain⟨u,rfl⟩:=rb.inv
  cases x with
  |tup xs=>
   obtain⟨ad,vs,rfl,_,⟨n,ha⟩,r⟩:=ra.inv
   have hl:lim=1048576:=rfl
   obtain⟨v,rv,f,⟨c,e,k⟩|⟨c1,c2,e⟩⟩:=sub_at r hz
   ·exact P.getItem_tuple ha (by lia) (by lia) (seqIndex_pos c k) e (h v rv)
   ·exact P.getItem_tuple ha (by lia) (Int.le_trans (by assumption) (by constructor)) (seqIndex_neg c1 c2) e (h v rv)
  |lst xs=>
   obtain⟨ad,vs,rfl,_,ha,r⟩:=ra.inv
   exact getItem_lst ha r hz h
  |_=>exact nomatch hz
 |_=>exact nomatch hz
theorem part_ok{v:Value}{k:Option Int}{Q:Option Int->Shared->Prop}(hv:IsPart v k)(h:Q k s):wpAny (model prog w) A (Builtin.Slice.slicePartIndex v) Q E s:=by
 cases hv with
 |none=>exact slicePart_none h
 |int i t=>exact slicePart_int h
theorem sliceApplied_ok{sl:Addr}{n:Nat}{vl vu:Value}{lo hi:Option Int}{Q:Int×Int×Nat->Shared->Prop}(hs:s.heap.IsSliceOf sl vl vu .none)(pl:IsPart vl lo)(pu:IsPart vu hi)
  (h:Q ((Builtin.Slice.sliceAdjust lo hi 1 n).1,1,Builtin.Slice.slicePlaces (Builtin.Slice.sliceAdjust lo hi 1 n).1 (Builtin.Slice.sliceAdjust lo hi 1 n).2 1) s):
  wpAny (model prog w) A (Builtin.Slice.sliceApplied (.ref sl) (pure (n:Int))) Q E s:=by
 refine cps λPP kk=>?_
 obtain⟨os,hos,hcs,hds⟩:=id hs
 refine kk ?_
 unfold Builtin.Slice.sliceApplied Builtin.Slice.sliceFields
 refine wpAny_bind (wpAny_bind (wpAny_field hos hds (x:=vl) rfl (wpAny_bind (wpAny_field hos hds (x:=vu) rfl (wpAny_bind (wpAny_field hos hds (x:=.none) rfl (wpAny_pure ?_)))))))
 refine wpAny_bind (slicePart_none ?_)
 show wpAny _ _ (if((1:Int)==0)=true then _ else _) _ _ s
 rw[if_neg (by exact Bool.false_ne_true)]
 exact wpAny_bind (part_ok pl (wpAny_bind (part_ok pu (wpAny_bind (wpAny_pure (wpAny_pure h))))))
noncomputable def loN(lo:Option Int)(n:Nat):Nat:=match lo with|some l=>min l.toNat n|Option.none=>0
noncomputable def hiN(hi:Option Int)(n:Nat):Nat:=match hi with|some l=>min l.toNat n|Option.none=>n
theorem adj1{l:Int}{n:Nat}(h:0<=l):(if l<0 then max (l+n) 0 else min l n)=((min l.toNat n:Nat):Int):=by
 rw[if_neg (Int.not_lt.mpr h)];lia
theorem adjust_ok{lo hi:Option Int}{n:Nat}(h0:∀l,lo=some l->0<=l)(h1:∀l,hi=some l->0<=l):Builtin.Slice.sliceAdjust lo hi 1 n=((loN lo n:Int),(hiN hi n:Int)):=by
 unfold Builtin.Slice.sliceAdjust loN hiN
 have a1:¬((1:Int)<0):=by exact nofun
 simp only[a1,if_false]
 cases lo with
 |none=>cases hi with
  |none=>rfl
  |some b=>exact congrArg (Prod.mk _) (adj1 (h1 b rfl))
 |some a=>cases hi with
  |none=>exact congrArg (Prod.mk · _) (adj1 (h0 a rfl))
  |some b=>exact congr (congrArg Prod.mk (adj1 (h0 a rfl))) (adj1 (h1 b rfl))
theorem places_ok(a b:Nat):Builtin.Slice.slicePlaces (a:Int) (b:Int) 1=b-a:=by
 unfold Builtin.Slice.slicePlaces
 have h1:(1:Int)>0:=by exact Int.le_refl _
 simp only[h1,if_true,Int.ediv_one]
 split<;>lia
theorem pick_ok(xs:Array Value)(a b:Nat):((List.range (b-a)).filterMap λ(k:Nat)=>xs[((a:Int)+(k:Int)*1).toNat]?)=(xs.toList.take b).drop a:=by
 have e:(λ(k:Nat)=>xs[((a:Int)+(k:Int)*1).toNat]?)=λk=>xs[a+k]?:=by
  funext k
  have:((a:Int)+(k:Int)*1).toNat=a+k:=by lia
  rw[this]
 rw[e]
 have:=pick_run xs a (b-a)
 rw[List.filterMap_map]at this
 have e2:((λx=>xs[x]?)∘λx=>a+x)=λk=>xs[a+k]?:=rfl
 rw[e2]at this
 rw[this,List.drop_take]
theorem getItem_tuple_slice{t sl:Addr}{items:Array Value}{vl vu:Value}{lo hi:Option Int}{Q:Value->Shared->Prop}(ht:TupAt s.heap t items)(hs:s.heap.IsSliceOf sl vl vu .none)(pl:IsPart vl lo)(pu:IsPart vu hi)
  (h0:∀l,lo=some l->0<=l)(h1:∀l,hi=some l->0<=l)
  (hw:loN lo items.size=0->hiN hi items.size=items.size->Q (.ref t) s)
  (h:Q (.ref s.heap.objs.size) {s with heap:=s.heap.push {cls:=.type "tuple",data:=.seq ((items.toList.take (hiN hi items.size)).drop (loN lo items.size)).toArray}})
  (hsz:items.size<=sizeLine):wpAny (model prog w) A (getItem (.ref t) (.ref sl)) Q E s:=by
 have hdrop:sizeOk (.seq ((items.toList.take (hiN hi items.size)).drop (loN lo items.size)).toArray):=by
  show Array.size _<=sizeLine
  rw[List.size_toArray,List.length_drop,List.length_take,Array.length_toList]
  omega
 obtain⟨os,hos,hcs,hds⟩:=id hs
 have hTs:s.TypeIs (.ref sl) "slice":=⟨os,hos,hcs⟩
 unfold getItem
 try with_reducible refine wpAny_holding ?_
 first|refine wpAny_bind (wpAny_pure ?_)|skip
 refine wpAny_bind (wpAny_sequenceKey ht.isTup.typeIs (by rfl) ?_)
 refine wpAny_bind (wpAny_callSpecial?_slot (name:=Str.ofString "__getitem__") ht.isTup.typeIs slot_tuple_getitem
  (wpAny_call_entry slot_tuple_getitem ht.isTup.typeIs entry_tuple_getitem ?_ (args_tuple_getitem _ _)))
 show wpAny _ _ (Builtin.Tuple.tupleItemsOf (.ref t)>>=_) _ _ s
 refine wpAny_bind (tupleItemsOf_ ht.isTup ?_)
 refine wpAny_bind (wpAny_typeOf hTs ?_)
 rw[if_pos (by rfl)]
 refine wpAny_bind (sliceApplied_ok hs pl pu ?_)
 rw[adjust_ok h0 h1,places_ok]
 show wpAny _ _ (if(((loN lo items.size:Nat):Int)==0&&(1:Int)==1&&(hiN hi items.size-loN lo items.size)==items.size)=true then _ else _) _ _ s
 split
 ·rename_i c
  simp only[Bool.and_eq_true,beq_iff_eq]at c
  have c1:loN lo items.size=0:=by lia
  have c2:hiN hi items.size=items.size:=by lia
  refine wpAny_bind (m:=Builtin.Tuple.tupleIsExact _) (wpAny_bind (wpAny_typeOf ht.isTup.typeIs (wpAny_pure ?_)))
  rw[if_pos (by rfl)]
  exact wpAny_bind (wpAny_rule (wpAny_pure ⟨_,rfl,wpAny_pure (hw c1 c2)⟩))
 ·rw[pick_ok]
  first
   |exact wpAny_bind (m:=Builtin.Tuple.tupleExact _) (wpAny_newObj_type (wpAny_pure ⟨_,rfl,wpAny_pure h⟩) hdrop)
   |exact wpAny_bind (m:=Builtin.Tuple.tupleExact _) (wpAny_newObj_type (wpAny_bind (wpAny_pure (wpAny_pure ⟨_,rfl,wpAny_pure h⟩))) hdrop)
   |exact wpAny_bind (wpAny_bind (m:=Builtin.Tuple.tupleExact _) (wpAny_newObj_type (wpAny_pure (wpAny_pure ⟨_,rfl,wpAny_pure h⟩)) hdrop))
   |exact wpAny_bind (wpAny_bind (m:=Builtin.Tuple.tupleExact _) (wpAny_newObj_type (wpAny_pure ⟨_,rfl,wpAny_pure h⟩) hdrop))
theorem clip_ok{n:Nat}{l:Int}(h:0<=l):clipAt n l=min l.toNat n:=by
 have:=clipAt_nat n l.toNat
 rwa [Int.toNat_of_nonneg h]at this
theorem slice_list_eq{items:Array Value}{lo hi:Option Int}(h0:∀l,lo=some l->0<=l)(h1:∀l,hi=some l->0<=l):
  slicePick items lo hi none=((items.toList.take (hiN hi items.size)).drop (loN lo items.size)).toArray:=by
 rw[slicePick_plain]
 have e1:lo.elim 0 (clipAt items.size)=loN lo items.size:=by
  cases lo with
  |none=>rfl
  |some l=>exact clip_ok (h0 l rfl)
 have e2:hi.elim items.size (clipAt items.size)=hiN hi items.size:=by
  cases hi with
  |none=>rfl
  |some l=>exact clip_ok (h1 l rfl)
 rw[e1,e2,List.drop_take]
theorem sliceL_eq{α:Type}(xs:List α)(lo hi:Option Int):(xs.take (hiN hi xs.length)).drop (loN lo xs.length)=sliceL xs (lo.getD 0).toNat (hi.map Int.toNat):=by
 have d:∀(ys:List α)(l:Nat),ys.length<=xs.length->ys.drop (min l xs.length)=ys.drop l:=λys l hl=>by
  rcases Nat.le_total l xs.length with h|h
  ·rw[Nat.min_eq_left h]
  ·rw[Nat.min_eq_right h,List.drop_of_length_le hl,List.drop_of_length_le (Nat.le_trans (by assumption) (by assumption))]
 have tk:∀l:Nat,xs.take (min l xs.length)=xs.take l:=λl=>by
  rcases Nat.le_total l xs.length with h|h
  ·rw[Nat.min_eq_left h]
  ·rw[Nat.min_eq_right h,List.take_of_length_le (Nat.le_refl _),List.take_of_length_le h]
 unfold sliceL loN hiN
 cases hi with
 |none=>
  cases lo with
  |none=>simp
  |some l=>simp only[List.take_of_length_le (Nat.le_refl xs.length),Option.map,Option.getD];exact d _ _ (Nat.le_refl _)
 |some b=>
  cases lo with
  |none=>simp only[Option.map,Option.getD,tk]<;>rfl
  |some l=>simp only[Option.map,Option.getD,tk];exact d _ _ (by rw[List.length_take];lia)
theorem slc_key{mk:List V->V}{xs:List V}{lo hi:Option Int}{z:V}(hz:(match hi with
   |some hi=>if 0<=lo.getD 0/\0<=hi/\xs.length<=lim then some (mk (sliceL xs (lo.getD 0).toNat (some hi.toNat)))else none
   |none=>if 0<=lo.getD 0/\xs.length<=lim then some (mk (sliceL xs (lo.getD 0).toNat none))else none)=some z):(∀l,lo=some l->0<=l)/\(∀l,hi=some l->0<=l)/\xs.length<=lim/\mk (sliceL xs (lo.getD 0).toNat (hi.map Int.toNat))=z:=by
 have hlo:0<=lo.getD 0->∀l,lo=some l->0<=l:=λq l e=>by rw[e]at q;exact q
 cases hi with
 |none=>exact⟨hlo (ite_some hz).1.1,λl e=>(nomatch e),(ite_some hz).1.2,(ite_some hz).2⟩
 |some b=>exact⟨hlo (ite_some hz).1.1,λl e=>Option.some.inj e▸(ite_some hz).1.2.1,(ite_some hz).1.2.2,(ite_some hz).2⟩
theorem slc_ok(hB:∀b,s.heap.get? b=none->¬Bad b){a:Value}{sl:Addr}{x z:V}{vl vu:Value}{lo hi:Option Int}{Q:Value->Shared->Prop}(ra:Rep wa Bad s.heap a x)(hs:s.heap.IsSliceOf sl vl vu .none)(pl:IsPart vl lo)(pu:IsPart vu hi)
  (hz:slcV x (lo.getD 0) hi=some z)(h:∀v s',Kept s s'->Rep wa Bad s'.heap v z->Q v s'):wpAny (model prog w) A (getItem a (.ref sl)) Q E s:=by
 have hr:∀{vs:Array Value}{xs:List V},Reps wa Bad s.heap vs.toList xs->Reps wa Bad s.heap ((vs.toList.take (hiN hi vs.size)).drop (loN lo vs.size)) (sliceL xs (lo.getD 0).toNat (hi.map Int.toNat)):=λ{vs xs} r=>by
  rw[←sliceL_eq,show vs.size=xs.length from r.length];exact(r.take _).drop _
 cases x with
 |tup xs=>
  obtain⟨h0,h1,hl,rfl⟩:=slc_key (mk:=V.tup) (xs:=xs) hz
  obtain⟨ad,vs,rfl,na,ha,r⟩:=ra.inv
  have e1:vs.size=xs.length:=r.length
  refine getItem_tuple_slice ha hs pl pu h0 h1 (λq1 q2=>?_) (h _ _ (Kept.push s _) (rep_push_tup hB (hr r))) (e1▸Nat.le_trans hl lim_line)
  have r':=hr r
  rw[q1,q2,List.drop_zero,List.take_of_length_le (Nat.le_of_eq (Array.length_toList ..))]at r'
  exact h _ _ (Kept.refl s) (.tup na ha r')
 |lst xs=>
  obtain⟨h0,h1,hl,rfl⟩:=slc_key (mk:=V.lst) (xs:=xs) hz
  obtain⟨ad,vs,rfl,na,ha,r⟩:=ra.inv
  have e1:vs.size=xs.length:=r.length
  refine wpAny_getItem_list_slice ha.is hs pl pu .none (by exact nofun) ?_ (e1▸Nat.le_trans hl lim_line)
  rw[slice_list_eq h0 h1]
  exact h _ _ (Kept.push s _) (rep_push_lst hB (hr r))
 |_=>exact nomatch hz
end
section
variable{wa:Option (Addr×Option Addr)}{Bad:Addr->Prop}{prog:Program}{w:World}{A:Around}{E:Value->Shared->Prop}{s:Shared}
noncomputable def bifVal:Bif->Value
 |.len=>.builtin "len"
 |.tuple=>.type "tuple"
 |.abs=>.builtin "abs"
 |.min=>.builtin "min"
 |.max=>.builtin "max"
 |.range=>.type "range"
noncomputable def bifName:Bif->Str
 |.len=>Str.ofString "len"
 |.tuple=>Str.ofString "tuple"
 |.abs=>Str.ofString "abs"
 |.min=>Str.ofString "min"
 |.max=>Str.ofString "max"
 |.range=>Str.ofString "range"
theorem reps1{l:List Value}{x:V}(r:Reps wa Bad s.heap l [x]):∃v,l=[v]/\Rep wa Bad s.heap v x:=by
 cases r with|cons r q=>cases q;exact⟨_,rfl,r⟩
theorem reps2{l:List Value}{x y:V}(r:Reps wa Bad s.heap l [x,y]):∃v u,l=[v,u]/\Rep wa Bad s.heap v x/\Rep wa Bad s.heap u y:=by
 cases r with|cons r q=>exact let⟨u,e,q⟩:=reps1 q;⟨_,u,e▸rfl,r,q⟩
theorem two_ints{vs:Array Value}{a b:Int}(r:Reps wa Bad s.heap vs.toList [.int a,.int b]):∃t u,vs=intItems #[(a,t),(b,u)]:=by
 refine cps λPP kk=>?_
 obtain⟨v,w,e,r1,r2⟩:=reps2 r
 obtain⟨t,u,rfl,rfl⟩:=int2 r1 r2
 refine kk ?_
 exact⟨t,u,Array.toList_inj.mp (e.trans (by simp[intItems]))⟩
theorem on1_i{f:V->Option V}{l:List V}{z:V}(h:on1 f l=some z):∃x,l=[x]/\f x=some z:=match l,h with
 |[x],h=>⟨x,rfl,h⟩
theorem ints2_i{l:List V}{p:V×V}(h:ints2 l=some p):l=[p.1,p.2]\/l=[.lst [p.1,p.2]]:=by
 cases l with
 |nil=>exact nomatch h
 |cons x r=>
  cases r with
  |nil=>
   cases x with
   |lst l=>
    cases l with
    |nil=>exact nomatch h
    |cons x r=>cases r with
     |nil=>exact nomatch h
     |cons y r=>cases r with
      |nil=>cases h;exact .inr rfl
      |cons=>exact nomatch h
   |_=>exact nomatch h
  |cons y r=>cases r with
   |nil=>cases h;exact .inl rfl
   |cons=>exact nomatch h
theorem len_fit{n:Nat}(h:n<=lim):(n:Int)<2^63:=by unfold lim at h;lia
theorem min2_ok(hh:A.handled=none){a b:Int}{t u:Tok}{Q:Value->Shared->Prop}(h:∀v s',Kept s s'->Rep wa Bad s'.heap v (.int (if b<a then b else a))->Q v s'):
  wpAny (model prog w) A (call (.builtin "min") [.int a t,.int b u]) Q E s:=by
 refine min_two_ints hh λh' tk hk=>?_
 by_cases c:b<a
 ·rw[if_pos c];rw[if_pos c]at h;exact h _ _ (Kept.mk' s hk) (.int _ _)
 ·rw[if_neg c];rw[if_neg c]at h;exact h _ _ (Kept.mk' s hk) (.int _ _)
theorem max2_ok(hh:A.handled=none){a b:Int}{t u:Tok}{Q:Value->Shared->Prop}(h:∀v s',Kept s s'->Rep wa Bad s'.heap v (.int (if a<b then b else a))->Q v s'):
  wpAny (model prog w) A (call (.builtin "max") [.int a t,.int b u]) Q E s:=by
 refine max_two_ints hh λh' tk hk=>?_
 by_cases c:a<b
 ·rw[if_pos c];rw[if_pos c]at h;exact h _ _ (Kept.mk' s hk) (.int _ _)
 ·rw[if_neg c];rw[if_neg c]at h;exact h _ _ (Kept.mk' s hk) (.int _ _)
theorem best_ok{a b:Int}{t u:Tok}{v:Value}{c:Prop}[d:Decidable c]{f:Nat->Nat->Bool}(hf:f 1 0=decide c)(hv:(intItems #[(a,t),(b,u)])[argBest f 1]?=some v){h:Heap}:Rep wa Bad h v (.int (if c then b else a)):=by
 have e:argBest f 1=if f 1 0 then 1 else 0:=rfl
 rw[e,hf]at hv
 by_cases k:c
 ·rw[decide_eq_true k,if_pos rfl]at hv
  rw[if_pos k,←Option.some.inj ((show(intItems #[(a,t),(b,u)])[1]?=some (Value.int b u)by simp[intItems]).symm.trans hv)];exact .int _ _
 ·rw[decide_eq_false k,if_neg Bool.false_ne_true]at hv
  rw[if_neg k,←Option.some.inj ((show(intItems #[(a,t),(b,u)])[0]?=some (Value.int a t)by simp[intItems]).symm.trans hv)];exact .int _ _
theorem min_ok(hh:A.handled=none){p:V×V}{vs:List Value}{xs:List V}{z:V}{Q:Value->Shared->Prop}(r:Reps wa Bad s.heap vs xs)(hp:ints2 xs=some p)(hz:on2 (λa b=>some (.int (if b<a then b else a))) p.1 p.2=some z)
  (h:∀v s',Kept s s'->Rep wa Bad s'.heap v z->Q v s'):wpAny (model prog w) A (call (.builtin "min") vs) Q E s:=by
 obtain⟨x,y⟩:=p
 obtain⟨a,b,rfl,rfl,e⟩:=on2_i hz
 cases e
 rcases ints2_i hp with rfl|rfl
 ·obtain⟨v,u,rfl,r1,r2⟩:=reps2 r
  obtain⟨t,u,rfl,rfl⟩:=int2 r1 r2
  exact min2_ok hh h
 ·obtain⟨v,rfl,r1⟩:=reps1 r
  obtain⟨l,ws,rfl,_,ha,q⟩:=r1.inv
  obtain⟨t,u,rfl⟩:=two_ints q
  exact min_intList hh ha.is (Nat.zero_lt_succ _) λv h' tk hv hk=>h _ _ (Kept.mk' s hk) (best_ok rfl hv)
theorem max_ok(hh:A.handled=none){p:V×V}{vs:List Value}{xs:List V}{z:V}{Q:Value->Shared->Prop}(r:Reps wa Bad s.heap vs xs)(hp:ints2 xs=some p)(hz:on2 (λa b=>some (.int (if a<b then b else a))) p.1 p.2=some z)
  (h:∀v s',Kept s s'->Rep wa Bad s'.heap v z->Q v s'):wpAny (model prog w) A (call (.builtin "max") vs) Q E s:=by
 obtain⟨x,y⟩:=p
 obtain⟨a,b,rfl,rfl,e⟩:=on2_i hz
 cases e
 rcases ints2_i hp with rfl|rfl
 ·obtain⟨v,u,rfl,r1,r2⟩:=reps2 r
  obtain⟨t,u,rfl,rfl⟩:=int2 r1 r2
  exact max2_ok hh h
 ·obtain⟨v,rfl,r1⟩:=reps1 r
  obtain⟨l,ws,rfl,_,ha,q⟩:=r1.inv
  obtain⟨t,u,rfl⟩:=two_ints q
  exact max_intList hh ha.is (Nat.zero_lt_succ _) λv h' tk hv hk=>h _ _ (Kept.mk' s hk) (best_ok rfl hv)
theorem bif_ok(hB:∀b,s.heap.get? b=none->¬Bad b)(hh:A.handled=none){b:Bif}{vs:List Value}{xs:List V}{z:V}{Q:Value->Shared->Prop}(r:Reps wa Bad s.heap vs xs)(hz:bifV b xs=some z)
  (h:∀v s',Kept s s'->Rep wa Bad s'.heap v z->Q v s'):wpAny (model prog w) A (call (bifVal b) vs) Q E s:=by
 cases b with
 |len=>
  obtain⟨x,rfl,hz⟩:=on1_i hz
  obtain⟨v,rfl,r1⟩:=reps1 r
  cases x with
  |tup xs=>
   obtain⟨l,rfl⟩:=ite_some hz
   obtain⟨ad,ws,rfl,_,⟨n,ha⟩,q⟩:=r1.inv
   have e:xs.length=ws.size:=q.length.symm
   rw[e]at h l
   exact P.len_tuple ha (Int.not_le.mpr (len_fit l)) (h _ _ (Kept.tok s _) (.int _ _))
  |lst xs=>
   obtain⟨l,rfl⟩:=ite_some hz
   obtain⟨ad,ws,rfl,_,ha,q⟩:=r1.inv
   have e:xs.length=ws.size:=q.length.symm
   rw[e]at h l
   exact PySem.Calls.call_len_list ha.is (len_fit l) (h _ _ (Kept.tok s _) (.int _ _))
  |_=>exact nomatch hz
 |tuple=>
  obtain⟨x,rfl,hz⟩:=on1_i hz
  obtain⟨v,rfl,r1⟩:=reps1 r
  cases x with
  |tup xs=>
   cases hz
   obtain⟨ad,ws,rfl,na,ha,q⟩:=r1.inv
   exact call_tuple_same ha.is (h _ _ (Kept.refl s) (.tup na ha q))
  |lst xs=>
   obtain⟨l,rfl⟩:=ite_some hz
   obtain⟨ad,ws,rfl,_,ha,q⟩:=r1.inv
   refine call_tuple_list ha.is (λh' hk=>h _ _ (Kept.mk' s λb o e=>Heap.get?_push_of_some _ (hk b o e)) ?_) (show ws.toList.length<=sizeLine from q.length▸Nat.le_trans l lim_line)
   have hn:s.heap.get? h'.objs.size=none:=by
    cases e:s.heap.get? h'.objs.size with
    |none=>rfl
    |some o=>exact nomatch (get_size h').symm.trans (hk _ _ e)
   exact .tup (hB _ hn) ⟨0,Heap.get?_push_size _ rfl⟩ (q.keep λb o e=>Heap.get?_push_of_some _ (hk b o e))
  |_=>exact nomatch hz
 |abs=>
  obtain⟨x,rfl,hz⟩:=on1_i hz
  obtain⟨v,rfl,r1⟩:=reps1 r
  cases x with
  |int i=>
   cases hz
   obtain⟨t,rfl⟩:=r1.inv
   exact call_abs_int λu tk=>h _ _ (Kept.tok s tk) (ite_abs' i▸.int _ _)
  |_=>exact nomatch hz
 |min=>
  have hz:(match ints2 xs with|some p=>on2 (λa b=>some (V.int (if b<a then b else a))) p.1 p.2|none=>none)=some z:=hz
  cases hp:ints2 xs with
  |none=>rw[hp]at hz;exact nomatch hz
  |some p=>rw[hp]at hz;exact min_ok hh r hp hz h
 |max=>
  have hz:(match ints2 xs with|some p=>on2 (λa b=>some (V.int (if a<b then b else a))) p.1 p.2|none=>none)=some z:=hz
  cases hp:ints2 xs with
  |none=>rw[hp]at hz;exact nomatch hz
  |some p=>rw[hp]at hz;exact max_ok hh r hp hz h
 |range=>
  obtain⟨x,rfl,hz⟩:=on1_i hz
  obtain⟨v,rfl,r1⟩:=reps1 r
  cases x with
  |int i=>
   obtain⟨l,rfl⟩:=ite_some hz
   obtain⟨t,rfl⟩:=r1.inv
   exact call_range_1 (h _ _ (Kept.mk' s λb o e=>Heap.get?_push_of_some _ e) (.rng (hB _ (get_size _)) l (Heap.get?_push_size _ rfl)))
  |_=>exact nomatch hz
theorem isTup_ok{v:Value}{x:V}{b:Bool}{Q:Value->Shared->Prop}(r:Rep wa Bad s.heap v x)(hz:isTupV x=some b)
  (h:∀s',Kept s s'->Q (.bool b) s'):wpAny (model prog w) A (call (.builtin "isinstance") [v,.type "tuple"]) Q E s:=by
 cases r with
 |tup na ha q=>cases hz;exact ha.elim λn ha=>IsiPair.tuple_tuple ha rfl (h _ (Kept.refl s))
 |none=>cases hz;exact IsiPair.NoneType_tuple (h _ (Kept.tok s _))
 |int i t=>cases hz;exact IsiPair.int_tuple (h _ (Kept.tok s _))
 |str i t=>cases hz;exact IsiPair.str_tuple (h _ (Kept.tok s _))
 |_=>exact nomatch hz
theorem strs_ok{vs:List Value}{xs:List V}(r:Reps wa Bad s.heap vs xs){ys:List Str}:strsOf xs=some ys->StrsAre vs ys:=
 r.ind (P:=λvs xs=>∀ys,strsOf xs=some ys->StrsAre vs ys) (λys e=>Option.some.inj e▸.nil) (λ{v x vs xs} r _ ih ys e=>by
  cases x with
  |str x=>
   obtain⟨t,rfl⟩:=r.inv
   have e:(match strsOf xs with|some t=>some (x::t)|none=>none)=some ys:=e
   cases hz:strsOf xs with
   |none=>rw[hz]at e;exact nomatch e
   |some zs=>rw[hz]at e;exact(Option.some.inj e)▸.cons _ _ (ih _ hz)
  |_=>exact nomatch e) ys
theorem join_ok{v:Value}{x z:V}{u:Tok}{Q:Value->Shared->Prop}(r:Rep wa Bad s.heap v x)(hz:joinV x=some z)
  (h:∀v s',Kept s s'->Rep wa Bad s'.heap v z->Q v s'):wpAny (model prog w) A (call (.builtin "str.join") [.str Str.empty u,v]) Q E s:=by
 cases x with
 |lst xs=>
  have hz:(match strsOf xs with|some ys=>if(ys.map (·.length)).sum+ys.length<=1048576 then some (V.str (Str.join Str.empty ys))else none|none=>none)=some z:=hz
  cases hy:strsOf xs with
  |none=>rw[hy]at hz;exact nomatch hz
  |some ys=>
   rw[hy]at hz
   refine cps λPP kk=>?_
   obtain⟨l,rfl⟩:=ite_some hz
   obtain⟨ad,ws,rfl,_,ha,q⟩:=r.inv
   refine kk ?_
   exact join_listW ha.is (strs_ok q hy) (Nat.zero_le _) l λt' k=>h _ _ (Kept.tok s k) (eq_of_beq (join_closes (sep:=Str.empty) (ys:=ys) rfl)▸.str _ _)
 |_=>exact nomatch hz
end
section
variable{wa:Option (Addr×Option Addr)}{Bad:Addr->Prop}{prog:Program}{w:World}{A:Around}{E:Value->Shared->Prop}{s:Shared}
theorem append_ok{l:Addr}{vs:Array Value}{x:Value}{Q:Value->Shared->Prop}(hl:LstAt s.heap l vs)(hsz:vs.size<=sizeLine)
  (h:∀h',LstAt h' l (vs.push x)->Heap.SameBut l s.heap h'->Q .none {s with heap:=h'}):wpAny (model prog w) A (call (.builtin "list.append") [.ref l,x]) Q E s:=
 wpAny_list_append_plain hl h hsz
theorem extend_ok{l b:Addr}{vs ws:Array Value}{Q:Value->Shared->Prop}(hl:LstAt s.heap l vs)(hb:TupAt s.heap b ws)(hsz:vs.size+ws.size<=sizeLine)
  (h:∀h',LstAt h' l (vs++ws)->Heap.SameBut l s.heap h'->Q .none {s with heap:=h'}):wpAny (model prog w) A (call (.builtin "list.extend") [.ref l,.ref b]) Q E s:=by
 refine cps λPP kk=>?_
 obtain⟨n,hl⟩:=hl
 obtain⟨m,hb⟩:=hb
 refine kk ?_
 refine call_meets PySem.F.slot_list_extend ⟨_,hl,rfl⟩ PySem.F.entry_list_extend (PySem.F.args_list_extend_2 _ _) (AutoSeq1.list_extend_list_tuple_0 l vs n b ws m (extend_door hsz) (by lia) (Nat.le_succ_of_le (by assumption))) ⟨hl,hb,?_⟩
 have hfin:LstAt (s.heap.update l (Obj.mapSeq λx=>x++ws)) l (vs++ws):=by
  refine⟨if(vs++ws).size==vs.size then n else n+1,?_⟩
  rw[Heap.get?_update_self _ hl (by rw[mapSeq_app];rfl),mapSeq_app]
 exact h _ hfin (Heap.SameBut.update ..)
theorem listOf_ok{t:Addr}{vs:Array Value}{Q:Value->Shared->Prop}(ht:TupAt s.heap t vs)(hsz:vs.size<=sizeLine)
  (h:∀h',(∀b o,s.heap.get? b=some o->h'.get? b=some o)->LstAt h' s.heap.objs.size vs->Q (.ref s.heap.objs.size) {s with heap:=h'}):wpAny (model prog w) A (call (.type "list") [.ref t]) Q E s:=by
 obtain⟨m,ht⟩:=ht
 exact call_list_seq t (.inr rfl) ht rfl rfl (λh' c hk e=>h h' hk ⟨c,e⟩) hsz
theorem fits_neg{k:Int}(h0:k<0)(h:-(2^63)<=k):Builtin.List.listFitsIndex k=true:=by
 unfold Builtin.List.listFitsIndex
 simp only[Bool.and_eq_true,decide_eq_true_eq]
 lia
theorem setItem_ok{l:Addr}{vs:Array Value}{k:Int}{t:Tok}{v:Value}{j:Nat}{Q:Unit->Shared->Prop}(hl:LstAt s.heap l vs)(hfit:Builtin.List.listFitsIndex k=true)(hk:seqIndex? k vs.size=some j)(hj:j<vs.size)
  (hsz:vs.size<=sizeLine)(h:∀h',LstAt h' l (vs.setIfInBounds j v)->Heap.SameBut l s.heap h'->Q () {s with heap:=h'}):wpAny (model prog w) A (setItem (.ref l) (.int k t) v) Q E s:=by
 obtain⟨n,ho⟩:=hl
 have hfin:LstAt (s.heap.update l (Obj.mapSeq (·.setIfInBounds j v))) l (vs.setIfInBounds j v):=by
  refine⟨n,?_⟩
  rw[Heap.get?_update_self _ ho (by simp[Obj.mapSeq];rfl)]
  simp[Obj.mapSeq]
 have hT:s.TypeIs (.ref l) "list":=⟨_,ho,rfl⟩
 unfold setItem
 try with_reducible refine wpAny_holding ?_
 first|refine wpAny_bind (wpAny_pure ?_)|skip
 refine wpAny_bind (wpAny_sequenceKey hT rfl ?_)
 refine wpAny_bind (wpAny_callSpecial?_slot (name:=Str.ofString "__setitem__") hT slot_list_setitem
  (wpAny_call_entry slot_list_setitem hT entry_list_setitem ?_ (args_list_setitem _ _ _)))
 show wpAny _ _ (Builtin.List.listSubscript? (.int k t)>>=_) _ _ s
 refine wpAny_bind (wpAny_listSubscript_int hfit ?_)
 have hx:vs[j]?=some vs[j]:=Array.getElem?_eq_getElem hj
 cases k with
 |ofNat i=>
  have hij:i=j:=by
   have h0:¬(Int.ofNat i<0):=by exact nofun
   simp only[seqIndex?,h0,if_false]at hk
   split at hk
   ·cases hk;rfl
   ·exact nomatch hk
  subst hij
  show wpAny _ _ ((seqItemAt l i>>=λr=>pure (r.map (i,·)))>>=_) _ _ s
  refine wpAny_bind (wpAny_bind (wpAny_seqItemAt ho rfl (wpAny_pure ?_)))
  rw[hx]
  show wpAny _ _ (setSeqItemAt l i v>>=_) _ _ s
  refine wpAny_bind (wpAny_setSeqItemAt ho rfl ?_)
  first
   |exact wpAny_bind (wpAny_pure (wpAny_pure ⟨.none,rfl,wpAny_pure (h _ hfin (Heap.SameBut.update ..))⟩))
   |exact wpAny_pure ⟨.none,rfl,wpAny_pure (h _ hfin (Heap.SameBut.update ..))⟩
 |negSucc i=>
  show wpAny _ _ ((Builtin.List.listItems (.ref l)>>=λxs=>pure ((seqIndex? (Int.negSucc i) xs.size).bind λi=>xs[i]?.map (i,·)))>>=_) _ _ s
  refine wpAny_bind (wpAny_bind ?_)
  show wpAny _ _ (seqItems? (.ref l)>>=_) _ _ s
  refine wpAny_bind (wpAny_seqItems ho rfl (wpAny_pure (wpAny_pure ?_)))
  rw[hk]
  simp only[Option.bind_some,hx,Option.map_some]
  show wpAny _ _ (setSeqItemAt l j v>>=_) _ _ s
  refine wpAny_bind (wpAny_setSeqItemAt ho rfl ?_)
  first
   |exact wpAny_bind (wpAny_pure (wpAny_pure ⟨.none,rfl,wpAny_pure (h _ hfin (Heap.SameBut.update ..))⟩))
   |exact wpAny_pure ⟨.none,rfl,wpAny_pure (h _ hfin (Heap.SameBut.update ..))⟩
theorem set_ok{l:Addr}{vs:Array Value}{xs ys:List V}{k:Int}{t:Tok}{v:Value}{x:V}{Q:Unit->Shared->Prop}(hl:LstAt s.heap l vs)(r:Reps wa Bad s.heap vs.toList xs)(rv:Rep wa Bad s.heap v x)(hz:setL xs k x=some ys)
  (hsz:vs.size<=lim)(h:∀h' ws,LstAt h' l ws->ws.size=vs.size->Reps wa Bad s.heap ws.toList ys->Heap.SameBut l s.heap h'->Q () {s with heap:=h'}):wpAny (model prog w) A (setItem (.ref l) (.int k t) v) Q E s:=by
 have e1:=r.length
 rw[Array.length_toList]at e1
 have hl':(lim:Int)=1048576:=rfl
 unfold setL at hz
 split at hz
 ·rename_i h0
  split at hz
  ·rename_i h1;cases hz
   refine setItem_ok hl (fitsIndex_of h0 (by lia)) (seqIndex_pos h0 (by lia)) (by lia) (Nat.le_trans hsz lim_line) λh' q sb=>h h' _ q (by simp) ?_ sb
   rw[Array.toList_setIfInBounds];exact r.set _ rv
  ·exact nomatch hz
 ·split at hz
  ·rename_i h0 h1;cases hz
   refine setItem_ok hl (fits_neg (by lia) (by lia)) (seqIndex_neg (by lia) (by lia)) (by lia) (Nat.le_trans hsz lim_line) λh' q sb=>h h' _ q (by simp) ?_ sb
   rw[Array.toList_setIfInBounds,←e1];exact r.set _ rv
  ·exact nomatch hz
end
mutual
noncomputable def eqV:(a b:V)->Option (PLift (a=b))
 |.int a,b=>match b with
  |.int b=>if h:a=b then some ⟨congrArg V.int h⟩else none
  |_=>none
 |.str a,b=>match b with
  |.str b=>if h:a=b then some ⟨congrArg V.str h⟩else none
  |_=>none
 |.tup a,b=>match b with
  |.tup b=>(eqVs a b).map λh=>⟨congrArg V.tup h.down⟩
  |_=>none
 |_,_=>none
noncomputable def eqVs:(a b:List V)->Option (PLift (a=b))
 |[],[]=>some ⟨rfl⟩
 |a::r,b::q=>(eqV a b).bind λh=>(eqVs r q).map λ(h':PLift (r=q))=>⟨congr (congrArg List.cons h.down) h'.down⟩
 |_,_=>none
end
noncomputable def eqD:(a b:List (Int×V))->Option (PLift (a=b))
 |[],[]=>some ⟨rfl⟩
 |(i,a)::r,(j,b)::q=>if e:i=j then(eqV a b).bind λh=>(eqD r q).map λ(h':PLift (r=q))=>⟨congr (congrArg List.cons (congr (congrArg Prod.mk e) h.down)) h'.down⟩else none
 |_,_=>none
noncomputable def dictTab:List (Str×List (Int×V)):=[(Str.ofString "INT_RANGES",dINT_RANGES),(Str.ofString "KID_PLACES",dKID_PLACES)]
noncomputable def fldName:Fld->Str
 |.given=>Str.ofString "given"
 |.at_=>Str.ofString "at"
 |.left=>Str.ofString "left"
noncomputable def dbg:Str:=Str.ofString "__debug__"
noncomputable abbrev Tb:=List (Nat×Str)
noncomputable def compKd(kd:Str->Option NameKind)(sc:Scope)(y:Str):Option NameKind:=match sc.names.lookup y with
 |some .free=>if kd y==some .cell then some .cell else some .free
 |k=>k
noncomputable def compTb(kd:Str->Option NameKind)(sc:Scope)(tb:Tb)(j:Nat)(x:Str):Tb:=
 (j,x)::tb.filter λp=>p.1!=j&&p.2!=x&&sc.names.lookup p.2==some .free&&kd p.2==some .cell
noncomputable def compOk(kd:Str->Option NameKind)(sc:Scope)(x:Str):Bool:=
 sc.kind==.function&&sc.names.lookup x==some .local&&x !=dbg&&
 sc.names.all λp=>p.2!=.cell&&(p.2!=.local||sc.names.lookup p.1==some .local)&&(p.2!=.free||kd p.1==some .cell)
noncomputable def isFnName(f:Nat)(x:Str):Bool:=match fns f with
 |some d=>d.name==x
 |Option.none=>false
noncomputable def globOk(kd:Str->Option NameKind)(x:Str):Bool:=kd x==some .globalImplicit&&x !=dbg
noncomputable def constOk(x:Str)(v:V):Bool:=match constTab.lookup x with
 |some u=>(eqV v u).isSome
 |Option.none=>false
theorem constOk_ok{x:Str}{v:V}(h:constOk x v=true):constTab.lookup x=some v:=by
 unfold constOk at h
 cases e:constTab.lookup x with
 |none=>rw[e]at h;exact nomatch h
 |some u=>rw[e]at h;exact congrArg some ((eqV v u).get h).down.symm
noncomputable def dictOk(x:Str)(d:List (Int×V)):Bool:=match dictTab.lookup x with
 |some u=>(eqD d u).isSome
 |Option.none=>false
theorem dictOk_ok{x:Str}{d:List (Int×V)}(h:dictOk x d=true):dictTab.lookup x=some d:=by
 unfold dictOk at h
 cases e:dictTab.lookup x with
 |none=>rw[e]at h;exact nomatch h
 |some u=>rw[e]at h;exact congrArg some ((eqD d u).get h).down.symm
noncomputable def locOk(tb:Tb)(i:Nat)(x:Str):Bool:=tb.contains (i,x)&&x !=dbg
noncomputable def xAll:PySem.Expr->List PySem.Expr×Str×Nat×Scope
 |.BinOp l _ r _=>([l,r],Str.empty,0,default)
 |.UnaryOp _ x _=>([x],Str.empty,0,default)
 |.BoolOp _ xs _=>(xs,Str.empty,0,default)
 |.Compare l _ rs _=>(l::rs,Str.empty,0,default)
 |.IfExp u x y _=>([u,x,y],Str.empty,0,default)
 |.Tuple xs k _=>(xs,Str.empty,k,default)
 |.List xs _=>(xs,Str.empty,0,default)
 |.Subscript x k _=>([x,k],Str.empty,0,default)
 |.Slice a b _ _=>(a.toList++b.toList,Str.empty,0,default)
 |.Call f as _ _=>(f::as,Str.empty,0,default)
 |.Attribute v _ _=>([v],Str.empty,0,default)
 |.Dict ks vs _=>(ks.filterMap id++vs,Str.empty,0,default)
 |.ListComp e gs sc _=>(e::gs.flatMap λg=>g.target::g.iter::g.ifs,Str.empty,0,sc)
 |.Name y _=>([],y,0,default)
 |.Constant _ k _=>([],Str.empty,k,default)
 |_=>([],Str.empty,0,default)
noncomputable def xKids(x:PySem.Expr):List PySem.Expr:=(xAll x).1
noncomputable def xNm(x:PySem.Expr):Str:=(xAll x).2.1
noncomputable def xTok(x:PySem.Expr):Nat:=(xAll x).2.2.1
noncomputable def xSc(x:PySem.Expr):Scope:=(xAll x).2.2.2
noncomputable def xNone:PySem.Expr:=.Constant .none 0 default
noncomputable def xK(x:PySem.Expr)(n:Nat):PySem.Expr:=(xKids x).getD n xNone
noncomputable def xName(x:PySem.Expr):PySem.Expr:=.Name (xNm x) x.pos
noncomputable def xStr(s:Str)(x:PySem.Expr):PySem.Expr:=.Constant (.str s) (xTok x) x.pos
noncomputable def fnName(f:Nat):Str:=match fns f with
 |some d=>d.name
 |none=>Str.empty
noncomputable def lnOk(x:PySem.Expr):Bool:=(xK x 0).pos.endLine==x.pos.line
mutual
noncomputable def dE:E->PySem.Expr->PySem.Expr
 |.none,x=>.Constant .none (xTok x) x.pos
 |.bool b,x=>.Constant (.bool b) (xTok x) x.pos
 |.int i,x=>.Constant (.int i) (xTok x) x.pos
 |.str s,x=>xStr s x
 |.loc _,x=>xName x
 |.glob y _,x=>.Name y x.pos
 |.bin op a b,x=>.BinOp (dE a (xK x 0)) op (dE b (xK x 1)) x.pos
 |.neg a,x=>.UnaryOp .USub (dE a (xK x 0)) x.pos
 |.not a,x=>.UnaryOp .Not (dE a (xK x 0)) x.pos
 |.boo isAnd es,x=>.BoolOp (if isAnd then BoolOp.And else BoolOp.Or) (dEs es (xKids x)) x.pos
 |.cmp op a b,x=>.Compare (dE a (xK x 0)) [op] [dE b (xK x 1)] x.pos
 |.ite t a b,x=>.IfExp (dE t (xK x 0)) (dE a (xK x 1)) (dE b (xK x 2)) x.pos
 |.tup es,x=>.Tuple (dEs es (xKids x)) (xTok x) x.pos
 |.lst es,x=>.List (dEs es (xKids x)) x.pos
 |.sub a i,x=>.Subscript (dE a (xK x 0)) (dE i (xK x 1)) x.pos
 |.subO _ e,x=>.Subscript (xName (xK x 0)) (dE e (xK x 1)) x.pos
 |.slcL a lo,x=>.Subscript (dE a (xK x 0)) (.Slice (some (dE lo (xK (xK x 1) 0))) none none (xK x 1).pos) x.pos
 |.slcH a hi,x=>.Subscript (dE a (xK x 0)) (.Slice none (some (dE hi (xK (xK x 1) 0))) none (xK x 1).pos) x.pos
 |.slcB a lo hi,x=>.Subscript (dE a (xK x 0)) (.Slice (some (dE lo (xK (xK x 1) 0))) (some (dE hi (xK (xK x 1) 1))) none (xK x 1).pos) x.pos
 |.pick ps k,x=>.Subscript (.Dict ((dPs ps (xKids (xK x 0)) ((xKids (xK x 0)).drop (lenP ps))).map λp=>some p.1) ((dPs ps (xKids (xK x 0)) ((xKids (xK x 0)).drop (lenP ps))).map λp=>p.2) (xK x 0).pos) (dE k (xK x 1)) x.pos
 |.dget y _ k,x=>.Subscript (.Name y (xK x 0).pos) (dE k (xK x 1)) x.pos
 |.dgetD y _ k d,x=>.Call (.Attribute (.Name y (xK (xK x 0) 0).pos) (Str.ofString "get") (xK x 0).pos) [dE k (xK x 1),dE d (xK x 2)] [] x.pos
 |.dnin y _ k,x=>.Compare (dE k (xK x 0)) [.NotIn] [.Name y (xK x 1).pos] x.pos
 |.call f es,x=>.Call (.Name (fnName f) (xK x 0).pos) (dEs es (xKids x).tail) [] x.pos
 |.bif b es,x=>.Call (.Name (bifName b) (xK x 0).pos) (dEs es (xKids x).tail) [] x.pos
 |.isTup a,x=>.Call (.Name (Str.ofString "isinstance") (xK x 0).pos) [dE a (xK x 1),.Name (Str.ofString "tuple") (xK x 2).pos] [] x.pos
 |.join a,x=>.Call (.Attribute (xStr Str.empty (xK (xK x 0) 0)) (Str.ofString "join") (xK x 0).pos) [dE a (xK x 1)] [] x.pos
 |.wg _ f,x=>.Subscript (xName (xK x 0)) (xStr (fldName f) (xK x 1)) x.pos
 |.wlen _,x=>.Call (.Name (Str.ofString "len") (xK x 0).pos) [.Subscript (xName (xK (xK x 1) 0)) (xStr (Str.ofString "rows") (xK (xK x 1) 1)) (xK x 1).pos] [] x.pos
 |.comp _ elt iter conds,x=>.ListComp (dE elt (xK x 0)) [⟨xName (xK x 1),dE iter (xK x 2),dEs conds ((xKids x).drop 3),0⟩] (xSc x) x.pos
noncomputable def dEs:Es->List PySem.Expr->List PySem.Expr
 |.nil,_=>[]
 |.cons e r,xs=>dE e (xs.headD xNone)::dEs r xs.tail
noncomputable def dPs:Ps->List PySem.Expr->List PySem.Expr->List (PySem.Expr×PySem.Expr)
 |.nil,_,_=>[]
 |.cons k v r,xs,ys=>(dE k (xs.headD xNone),dE v (ys.headD xNone))::dPs r xs.tail ys.tail
noncomputable def lenP:Ps->Nat
 |.nil=>0
 |.cons _ _ r=>lenP r+1
end
noncomputable def Es.some:Es->Bool
 |.nil=>false
 |.cons _ _=>true
noncomputable def Ps.some:Ps->Bool
 |.nil=>false
 |.cons _ _ _=>true
mutual
noncomputable def okE(kd:Str->Option NameKind)(tb:Tb):E->PySem.Expr->Bool
 |.none,_=>true
 |.bool _,_=>true
 |.int _,_=>true
 |.str _,_=>true
 |.loc i,x=>locOk tb i (xNm x)
 |.glob y v,_=>globOk kd y&&constOk y v
 |.bin _ a b,x=>okE kd tb a (xK x 0)&&okE kd tb b (xK x 1)
 |.neg a,x=>okE kd tb a (xK x 0)
 |.not a,x=>okE kd tb a (xK x 0)
 |.boo _ es,x=>okEs kd tb es (xKids x)
 |.cmp _ a b,x=>okE kd tb a (xK x 0)&&okE kd tb b (xK x 1)
 |.ite t a b,x=>okE kd tb t (xK x 0)&&(okE kd tb a (xK x 1)&&okE kd tb b (xK x 2))
 |.tup es,x=>okEs kd tb es (xKids x)
 |.lst es,x=>okEs kd tb es (xKids x)
 |.sub a i,x=>okE kd tb a (xK x 0)&&okE kd tb i (xK x 1)
 |.subO i e,x=>locOk tb i (xNm (xK x 0))&&okE kd tb e (xK x 1)
 |.slcL a lo,x=>okE kd tb a (xK x 0)&&okE kd tb lo (xK (xK x 1) 0)
 |.slcH a hi,x=>okE kd tb a (xK x 0)&&okE kd tb hi (xK (xK x 1) 0)
 |.slcB a lo hi,x=>okE kd tb a (xK x 0)&&(okE kd tb lo (xK (xK x 1) 0)&&okE kd tb hi (xK (xK x 1) 1))
 |.pick ps k,x=>(Nat.ble (lenP ps) 15&&ps.some)&&(okPs kd tb ps (xKids (xK x 0)) ((xKids (xK x 0)).drop (lenP ps))&&okE kd tb k (xK x 1))
 |.dget y d k,x=>(globOk kd y&&dictOk y d)&&okE kd tb k (xK x 1)
 |.dgetD y d k e,x=>(globOk kd y&&dictOk y d)&&(lnOk x&&(okE kd tb k (xK x 1)&&okE kd tb e (xK x 2)))
 |.dnin y d k,x=>(globOk kd y&&dictOk y d)&&okE kd tb k (xK x 0)
 |.call f es,x=>(globOk kd (fnName f)&&(isFnName f (fnName f)&&es.some))&&okEs kd tb es (xKids x).tail
 |.bif b es,x=>(globOk kd (bifName b)&&es.some)&&okEs kd tb es (xKids x).tail
 |.isTup a,x=>(globOk kd (Str.ofString "isinstance")&&globOk kd (Str.ofString "tuple"))&&okE kd tb a (xK x 1)
 |.join a,x=>lnOk x&&okE kd tb a (xK x 1)
 |.wg i _,x=>locOk tb i (xNm (xK x 0))
 |.wlen i,x=>globOk kd (Str.ofString "len")&&locOk tb i (xNm (xK (xK x 1) 0))
 |.comp j elt iter conds,x=>(compOk kd (xSc x) (xNm (xK x 1))&&okE kd tb iter (xK x 2))&&(okE (compKd kd (xSc x)) (compTb kd (xSc x) tb j (xNm (xK x 1))) elt (xK x 0)&&okEs (compKd kd (xSc x)) (compTb kd (xSc x) tb j (xNm (xK x 1))) conds ((xKids x).drop 3))
noncomputable def okEs(kd:Str->Option NameKind)(tb:Tb):Es->List PySem.Expr->Bool
 |.nil,_=>true
 |.cons e r,xs=>okE kd tb e (xs.headD xNone)&&okEs kd tb r xs.tail
noncomputable def okPs(kd:Str->Option NameKind)(tb:Tb):Ps->List PySem.Expr->List PySem.Expr->Bool
 |.nil,_,_=>true
 |.cons k v r,xs,ys=>okE kd tb k (xs.headD xNone)&&(okE kd tb v (ys.headD xNone)&&okPs kd tb r xs.tail ys.tail)
end
theorem and_i{a b:Bool}(h:(a&&b)=true):a=true/\b=true:=Bool.and_eq_true_iff.mp h
noncomputable def nc:E->Bool
 |.comp _ _ _ _=>false
 |_=>true
theorem ffx{P:Prop}(h:false=true):P:=nomatch h
section
structure Cx where
 prog:Program
 w:World
 A:Around
 env:PySem.Env
 wa:Option (Addr×Option Addr)
 Bad:Addr->Prop
 tb:Tb
 ρ:Env'
 H:Heap
 mg:Str->Option Value
 mb:Str->Option Value
structure Base(prog:Program)(w:World)(H:Heap)(mg mb:Str->Option Value):Prop where
 g:H.Ns mainGlobals mg
 b:H.Ns builtinsNs mb
 const:∀x v,constTab.lookup x=some v->∃u,mg x=some u/\∀(h':Heap) wa Bad,(∀b o,H.get? b=some o->h'.get? b=some o)->(∀b,Bad b->H.get? b=none)->Rep wa Bad h' u v
 dict:∀x d,dictTab.lookup x=some d->∃a f,mg x=some (.ref a)/\(a==sysModules)=false/\H.MapOf (intKind prog w) a f/\
  ∀i,(∀v,dictGet d i=some v->∃u,f i=some u/\∀(h':Heap) wa Bad,(∀b o,H.get? b=some o->h'.get? b=some o)->(∀b,Bad b->H.get? b=none)->Rep wa Bad h' u v)/\(dictGet d i=none->f i=none)
 bltn:∀b,mg (bifName b)=none/\mb (bifName b)=some (bifVal b)
 isi:mg (Str.ofString "isinstance")=none/\mb (Str.ofString "isinstance")=some (.builtin "isinstance")
 list:mg (Str.ofString "list")=none/\mb (Str.ofString "list")=some (.type "list")
noncomputable def Rd1(wa:Option (Addr×Option Addr))(env:PySem.Env)(h:Heap)(x:Str)(v:Value):Prop:=
 (env.kindOf x=some .local/\¬isW wa env.locals/\∃m,h.Ns env.locals m/\m x=some v)\/
 (env.kindOf x=some .cell/\∃c,env.cells.lookup x=some c/\¬isW wa c/\h.IsCell c (some v))
noncomputable def SlotOk(wa:Option (Addr×Option Addr))(Bad:Addr->Prop)(env:PySem.Env)(h:Heap)(x:Str):Slot->Prop
 |.none=>True
 |.val V=>∃v,Rd1 wa env h x v/\Rep wa Bad h v V
 |.own xs=>∃a vs,Rd1 wa env h x (.ref a)/\¬isW wa a/\LstAt h a vs/\Reps wa Bad h vs.toList xs/\vs.size<=lim
noncomputable def wPairs(W:W)(vg:Value)(ta tl:Tok)(vr:Value):List (Str×Value):=[(Str.ofString "given",vg),(Str.ofString "at",.int W.at_ ta),(Str.ofString "left",.int W.left tl),(Str.ofString "rows",vr)]
inductive WRows(wa:Option (Addr×Option Addr))(Bad:Addr->Prop)(h:Heap)(W:W)(aw:Addr)(vr:Value):Prop
 |fin (n:wa=some (aw,none)) (e:W.fin=true):WRows wa Bad h W aw vr
 |run {ar:Addr} {rs:Array Value} (n:wa=some (aw,some ar)) (e:W.fin=false/\vr=.ref ar) (ne:aw≠ar) (l:LstAt h ar rs) (r:Reps wa Bad h rs.toList W.rows) (sz:rs.size<=lim):WRows wa Bad h W aw vr
inductive WOk(prog:Program)(w:World)(wa:Option (Addr×Option Addr))(Bad:Addr->Prop)(h:Heap):Option W->Prop
 |off (n:wa=none):WOk prog w wa Bad h none
 |on {W:W} {aw:Addr} {vg vr:Value} {ta tl:Tok} (d:h.DictOf (strKind prog w) aw (wPairs W vg ta tl vr)) (g:Rep wa Bad h vg (.lst W.given)) (c:WRows wa Bad h W aw vr):WOk prog w wa Bad h (some W)
noncomputable def KeptW(wa:Option (Addr×Option Addr))(s s':Shared):Prop:=∃h tk,s'={s with heap:=h,toks:=tk}/\∀b o,¬isW wa b->s.heap.get? b=some o->h.get? b=some o
namespace Cx
variable(C:Cx)
structure Ok(C:Cx):Prop where
 hh:C.A.handled=none
 hu:C.A.units+700<cLine
 kind:C.env.scope.kind=.function
 glob:C.env.globals=mainGlobals
 blt:C.env.builtins=builtinsNs
 isBad:∀b,isW C.wa b->C.Bad b
 badH:∀b,C.Bad b->C.H.get? b=none
 cells:∀x,C.env.kindOf x=some .cell->(C.env.cells.lookup x).isSome=true
 base:Base C.prog C.w C.H C.mg C.mb
structure St(C:Cx)(σ:Option W)(s:Shared):Prop where
 keep:∀b o,C.H.get? b=some o->s.heap.get? b=some o
 live:∀b,s.heap.get? b=none->¬C.Bad b
 rd:∀k x,(k,x)∈C.tb->∀sl,C.ρ[k]?=some sl->SlotOk C.wa C.Bad C.env s.heap x sl
 w:WOk C.prog C.w C.wa C.Bad s.heap σ
end Cx
open Cx
section
variable{wa:Option (Addr×Option Addr)}{Bad:Addr->Prop}
theorem KeptW.heap{s s':Shared}(x:KeptW wa s s'):∀b o,¬isW wa b->s.heap.get? b=some o->s'.heap.get? b=some o:=by
 obtain⟨h,tk,rfl,k⟩:=x;exact k
theorem KeptW.of{s s':Shared}(x:Kept s s'):KeptW wa s s':=by obtain⟨h,tk,rfl,k⟩:=x;exact⟨h,tk,rfl,λb o _ e=>k b o e⟩
theorem KeptW.refl(s:Shared):KeptW wa s s:=.of (.refl s)
theorem KeptW.trans{a b c:Shared}(x:KeptW wa a b)(y:KeptW wa b c):KeptW wa a c:=by
 obtain⟨h,tk,rfl,k⟩:=x
 obtain⟨h',tk',rfl,k'⟩:=y
 exact⟨h',tk',rfl,λb o n e=>k' b o n (k b o n e)⟩
theorem KeptW.rep(hi:∀b,isW wa b->Bad b){s s':Shared}(x:KeptW wa s s'){v:Value}{V:V}(r:Rep wa Bad s.heap v V):Rep wa Bad s'.heap v V:=
 r.mono (λ_ q=>.inl q) λb o n e=>x.heap b o (λq=>n (hi b q)) e
theorem KeptW.reps(hi:∀b,isW wa b->Bad b){s s':Shared}(x:KeptW wa s s'){v:List Value}{V:List V}(r:Reps wa Bad s.heap v V):Reps wa Bad s'.heap v V:=
 r.mono (λ_ q=>.inl q) λb o n e=>x.heap b o (λq=>n (hi b q)) e
theorem Rd1.keep{env:PySem.Env}{h h':Heap}{x:Str}{v:Value}(hk:∀b o,¬isW wa b->h.get? b=some o->h'.get? b=some o)(r:Rd1 wa env h x v):Rd1 wa env h' x v:=by
 rcases r with⟨a,n,m,hn,e⟩|⟨a,c,e,n,hc⟩
 ·exact .inl ⟨a,n,m,hn.at' λo q=>hk _ o n q,e⟩
 ·exact .inr ⟨a,c,e,n,let⟨o,ho,hd⟩:=hc;⟨o,hk c o n ho,hd⟩⟩
theorem SlotOk.keep(hi:∀b,isW wa b->Bad b){env:PySem.Env}{h h':Heap}{x:Str}{sl:Slot}(hk:∀b o,¬isW wa b->h.get? b=some o->h'.get? b=some o)(r:SlotOk wa Bad env h x sl):SlotOk wa Bad env h' x sl:=by
 cases sl with
 |none=>trivial
 |val V=>obtain⟨v,a,b⟩:=r;exact⟨v,a.keep hk,b.mono (λ_ q=>.inl q) λb o n e=>hk b o (λq=>n (hi b q)) e⟩
 |own xs=>
  refine cps λPP kk=>?_
  obtain⟨a,vs,q1,q2,⟨n,q3⟩,q4,q5⟩:=r
  refine kk ?_
  exact⟨a,vs,q1.keep hk,q2,⟨n,hk a _ q2 q3⟩,q4.mono (λ_ q=>.inl q) λb o n e=>hk b o (λq=>n (hi b q)) e,q5⟩
theorem WOk.alive{prog:Program}{w:World}{h:Heap}{σ:Option W}(x:WOk prog w wa Bad h σ){b:Addr}(q:isW wa b):∃o,h.get? b=some o:=by
 obtain⟨p,e,q⟩:=q
 cases x with
 |off n=>exact nomatch n.symm.trans e
 |on hd _ c=>
  obtain⟨o,_,_,ho,_⟩:=hd.mapOf
  cases c with
  |fin n _=>
   cases n.symm.trans e
   rcases q with rfl|q
   ·exact⟨o,ho⟩
   ·exact nomatch q
  |run n _ _ hr _ _=>
   cases n.symm.trans e
   rcases q with rfl|q
   ·exact⟨o,ho⟩
   ·cases q;exact hr.elim λ_ ho=>⟨_,ho⟩
theorem WRows.isW{h:Heap}{W:W}{aw:Addr}{vr:Value}(c:WRows wa Bad h W aw vr):isW wa aw:=by
 cases c with
 |fin n=>exact⟨_,n,.inl rfl⟩
 |run n=>exact⟨_,n,.inl rfl⟩
theorem WOk.mono{prog:Program}{w:World}{Bad':Addr->Prop}{h h':Heap}{σ:Option W}(hb:∀b,Bad' b->Bad b\/h.get? b=none)(hk:∀b o,(¬Bad b\/isW wa b)->h.get? b=some o->h'.get? b=some o)
  (x:WOk prog w wa Bad h σ):WOk prog w wa Bad' h' σ:=by
 cases x with
 |off n=>exact .off n
 |on hd rg c=>
  refine .on (hd.at λo e=>hk _ o (.inr c.isW) e) (rg.mono hb λb o n e=>hk b o (.inl n) e) ?_
  cases c with
  |fin n e=>exact .fin n e
  |run n e1 e2 e3 e4 e5=>exact .run n e1 e2 (e3.elim λk e=>⟨k,hk _ _ (.inr ⟨_,n,.inr rfl⟩) e⟩) (e4.mono hb λb o n e=>hk b o (.inl n) e) e5
end
variable{C:Cx}
theorem Cx.St.kept(O:C.Ok){σ:Option W}{s s':Shared}(S:C.St σ s)(k:Kept s s'):C.St σ s' where
 keep:=λb o e=>k.heap b o (S.keep b o e)
 live:=λb e=>S.live b (by cases q:s.heap.get? b with|none=>rfl|some o=>rw[k.heap b o q]at e;assumption)
 rd:=λi x m sl e=>(S.rd i x m sl e).keep O.isBad λb o _ q=>k.heap b o q
 w:=S.w.mono (λ_ q=>.inl q) λb o _ e=>k.heap b o e
theorem notW_H(O:C.Ok){b:Addr}{o:Obj}(e:C.H.get? b=some o):¬isW C.wa b:=λq=>by
 rw[O.badH b (O.isBad b q)]at e;exact nomatch e
theorem Cx.St.keptW(O:C.Ok){σ σ':Option W}{s s':Shared}(S:C.St σ s)(k:KeptW C.wa s s')(hw:WOk C.prog C.w C.wa C.Bad s'.heap σ'):C.St σ' s' where
 keep:=λb o e=>k.heap b o (notW_H O e) (S.keep b o e)
 live:=λb e=>by
  by_cases q:isW C.wa b
  ·obtain⟨o,ho⟩:=hw.alive q;rw[ho]at e;exact nomatch e
  ·exact S.live b (by cases p:s.heap.get? b with|none=>rfl|some o=>rw[k.heap b o q p]at e;assumption)
 rd:=λi x m sl e=>(S.rd i x m sl e).keep O.isBad λb o q p=>k.heap b o q p
 w:=hw
noncomputable def EvOk(C:Cx)(x:Sem Value)(f:M V):Prop:=∀σ V σ',f σ=some (V,σ')->∀(s:Shared),C.St σ s->∀(E:Value->Shared->Prop)(Q:Value->Shared->Prop),
 (∀v s',KeptW C.wa s s'->Rep C.wa C.Bad s'.heap v V->C.St σ' s'->Q v s')->wpAny (model C.prog C.w) C.A x Q E s
noncomputable def EvsOk(C:Cx)(x:Sem (List Value))(f:M (List V)):Prop:=∀σ V σ',f σ=some (V,σ')->∀(s:Shared),C.St σ s->∀(E:Value->Shared->Prop)(Q:List Value->Shared->Prop),
 (∀v s',KeptW C.wa s s'->Reps C.wa C.Bad s'.heap v V->C.St σ' s'->Q v s')->wpAny (model C.prog C.w) C.A x Q E s
noncomputable def TrOk(C:Cx)(x:Sem Bool)(f:M V):Prop:=∀σ V σ' t,f σ=some (V,σ')->V.truth=some t->∀(s:Shared),C.St σ s->∀(E:Value->Shared->Prop)(Q:Bool->Shared->Prop),
 (∀s',KeptW C.wa s s'->C.St σ' s'->Q t s')->wpAny (model C.prog C.w) C.A x Q E s
theorem M.bind_some{α β:Type}{m:M α}{f:α->M β}{σ:Option W}{r:β×Option W}(h:(m.bind f) σ=some r):∃a σ₁,m σ=some (a,σ₁)/\f a σ₁=some r:=by
 unfold M.bind at h
 cases e:m σ with
 |none=>rw[e]at h;exact nomatch h
 |some p=>rw[e]at h;exact⟨p.1,p.2,rfl,h⟩
theorem M.lift_some{α:Type}{o:Option α}{σ:Option W}{a:α}{σ':Option W}(h:(M.lift o) σ=some (a,σ')):o=some a/\σ'=σ:=by
 cases o with
 |none=>exact nomatch h
 |some x=>cases h;exact⟨rfl,rfl⟩
theorem M.bl{α β:Type}{o:Option α}{f:α->M β}{σ:Option W}{r:β×Option W}(h:((M.lift o).bind f) σ=some r):∃x,o=some x/\f x σ=some r:=by
 cases o with
 |none=>exact nomatch h
 |some x=>exact⟨x,rfl,h⟩
theorem M.onW_i{α:Type}{x:V}{f:W->Option (α×W)}{σ σ':Option W}{a:α}(h:M.onW x f σ=some (a,σ')):x=.w/\∃w w',σ=some w/\f w=some (a,w')/\σ'=some w':=by
 cases x with
 |w=>cases σ with
  |none=>exact nomatch h
  |some w=>
   have h':(match f w with|some p=>some (p.1,some p.2)|none=>none)=some (a,σ'):=h
   cases e:f w with
   |none=>rw[e]at h';exact nomatch h'
   |some p=>rw[e]at h';cases h';exact⟨rfl,w,p.2,rfl,e,rfl⟩
 |_=>exact nomatch h
theorem M.pure_some{α:Type}{b:α}{σ:Option W}{a:α}{σ':Option W}(h:(M.pure b) σ=some (a,σ')):a=b/\σ'=σ:=by cases h;exact⟨rfl,rfl⟩
theorem truthy_ok{prog:Program}{w:World}{A:Around}{E:Value->Shared->Prop}{s:Shared}{wa:Option (Addr×Option Addr)}{Bad:Addr->Prop}{v:Value}{V:V}{t:Bool}{Q:Bool->Shared->Prop}(r:Rep wa Bad s.heap v V)(h:V.truth=some t)(q:Q t s):
  wpAny (model prog w) A (truthy v) Q E s:=by
 cases V with
 |bool b=>cases h;rw[show v=.bool _ from r.inv];exact wpAny_truthy_bool q
 |int i=>cases h;obtain⟨t,rfl⟩:=r.inv;exact truthy_int q
 |_=>exact nomatch h
theorem beq_false_of{x:Str}(h:(x !=dbg)=true):(x==("__debug__":Str))=false:=by
 cases e:x==("__debug__":Str)with
 |false=>rfl
 |true=>exact nomatch (show(x !=dbg)=false from congrArg not e).symm.trans h
theorem locOk_i{tb:Tb}{i:Nat}{x:Str}(h:locOk tb i x=true):(i,x)∈tb/\(x==("__debug__":Str))=false:=⟨List.contains_iff_mem.mp (and_i h).1,beq_false_of (and_i h).2⟩
theorem globOk_i{kd:Str->Option NameKind}{x:Str}(h:globOk kd x=true):kd x=some .globalImplicit/\(x==("__debug__":Str))=false:=⟨eq_of_beq (and_i h).1,beq_false_of (and_i h).2⟩
theorem getV_some{ρ:Env'}{i:Nat}{v:V}(h:getV ρ i=some v):ρ[i]?=some (.val v):=by
 unfold getV at h
 cases e:ρ[i]? with
 |none=>rw[e]at h;exact nomatch h
 |some s=>cases s with
  |val v=>rw[e]at h;exact congrArg (λv=>some (Slot.val v)) (Option.some.inj h)
  |_=>rw[e]at h;exact nomatch h
theorem getO_some{ρ:Env'}{i:Nat}{v:List V}(h:getO ρ i=some v):ρ[i]?=some (.own v):=by
 unfold getO at h
 cases e:ρ[i]? with
 |none=>rw[e]at h;exact nomatch h
 |some s=>cases s with
  |own v=>rw[e]at h;exact congrArg (λv=>some (Slot.own v)) (Option.some.inj h)
  |_=>rw[e]at h;exact nomatch h
theorem name_of(O:C.Ok){x:Str}{pos:Pos}{v:Value}(hd:(x==("__debug__":Str))=false){s:Shared}(r:Rd1 C.wa C.env s.heap x v){E:Value->Shared->Prop}{Q:Value->Shared->Prop}(h:Q v s):wpAny (model C.prog C.w) C.A (eval (.Name x pos) C.env) Q E s:=by
 refine wpAny_Name ?_ hd
 rcases r with⟨a,n,m,hn,e⟩|⟨a,c,e,n,hc⟩
 ·exact wpAny_loadName_local O.kind a hn e h
 ·exact wpAny_loadName_cell O.kind a e hc h
theorem ev_name(O:C.Ok){i:Nat}{x:Str}{pos:Pos}(hl:locOk C.tb i x=true):EvOk C (eval (.Name x pos) C.env) (M.lift (getV C.ρ i)):=by
 intro σ V σ' hf s S E Q h
 obtain⟨hv,rfl⟩:=M.lift_some hf
 obtain⟨v,r,q⟩:=S.rd i x (locOk_i hl).1 _ (getV_some hv)
 exact name_of O (locOk_i hl).2 r (h _ _ (.refl s) q S)
theorem own_name(O:C.Ok){i:Nat}{x:Str}{pos:Pos}{xs:List V}(hl:locOk C.tb i x=true)(ho:getO C.ρ i=some xs){σ:Option W}{s:Shared}(S:C.St σ s){E:Value->Shared->Prop}{Q:Value->Shared->Prop}
  (h:∀a vs,Rd1 C.wa C.env s.heap x (.ref a)->¬isW C.wa a->LstAt s.heap a vs->Reps C.wa C.Bad s.heap vs.toList xs->vs.size<=lim->Q (.ref a) s):
  wpAny (model C.prog C.w) C.A (eval (.Name x pos) C.env) Q E s:=by
 refine cps λPP kk=>?_
 obtain⟨a,vs,r,q1,q2,q3,q4⟩:=S.rd i x (locOk_i hl).1 _ (getO_some ho)
 refine kk ?_
 exact name_of O (locOk_i hl).2 r (h a vs r q1 q2 q3 q4)
theorem load_glob(O:C.Ok){x:Str}{pos:Pos}{u:Value}(hg:globOk C.env.kindOf x=true)(hm:C.mg x=some u){σ:Option W}{s:Shared}(S:C.St σ s){E:Value->Shared->Prop}{Q:Value->Shared->Prop}(h:Q u s):
  wpAny (model C.prog C.w) C.A (eval (.Name x pos) C.env) Q E s:=
 Calls.Name_function_global O.kind (globOk_i hg).1 (Calls.loadGlobal_global (by rw[O.glob];exact O.base.g.keeps S.keep) hm h) (globOk_i hg).2
theorem load_blt(O:C.Ok){x:Str}{pos:Pos}{u:Value}(hg:globOk C.env.kindOf x=true)(hm:C.mg x=none)(hb:C.mb x=some u){σ:Option W}{s:Shared}(S:C.St σ s){E:Value->Shared->Prop}{Q:Value->Shared->Prop}(h:Q u s):
  wpAny (model C.prog C.w) C.A (eval (.Name x pos) C.env) Q E s:=
 Calls.Name_function_global O.kind (globOk_i hg).1 (Calls.loadGlobal_builtin (by rw[O.glob];exact O.base.g.keeps S.keep) hm (by rw[O.blt];exact O.base.b.keeps S.keep) hb h) (globOk_i hg).2
theorem ev_glob(O:C.Ok){x:Str}{v:V}{pos:Pos}(hg:globOk C.env.kindOf x=true)(hc:constOk x v=true):EvOk C (eval (.Name x pos) C.env) (M.pure v):=by
 intro σ V σ' hf s S E Q h
 obtain⟨rfl,rfl⟩:=M.pure_some hf
 obtain⟨z,hz,r⟩:=O.base.const x _ (constOk_ok hc)
 exact load_glob O hg hz S (h _ _ (.refl s) (r _ _ _ S.keep O.badH) S)
noncomputable def Op(C:Cx)(t:Sem Value)(z:V)(s:Shared):Prop:=∀(E:Value->Shared->Prop)(Q:Value->Shared->Prop),(∀v s',Kept s s'->Rep C.wa C.Bad s'.heap v z->Q v s')->wpAny (model C.prog C.w) C.A t Q E s
theorem op1(O:C.Ok){t whole:Sem Value}{op:Value->Sem Value}{f:M V}{g:V->Option V}(hx:EvOk C t f)(hw:∀(E:Value->Shared->Prop)(Q:Value->Shared->Prop) s,wpAny (model C.prog C.w) C.A t (λv s1=>wpAny (model C.prog C.w) C.A (op v) Q E s1) E s->wpAny (model C.prog C.w) C.A whole Q E s)
  (H:∀{σ s v a z},C.St σ s->Rep C.wa C.Bad s.heap v a->g a=some z->Op C (op v) z s):EvOk C whole (f.bind λx=>M.lift (g x)):=by
 intro σ V σ' hf s S E Q h
 obtain⟨a,σ1,h1,hf1⟩:=M.bind_some hf
 obtain⟨hz,rfl⟩:=M.lift_some hf1
 exact hw E Q s (hx σ a _ h1 s S _ _ λv s1 k1 r1 S1=>H S1 r1 hz E Q λv' s2 k2 r2=>h v' s2 (k1.trans (.of k2)) r2 (S1.kept O k2))
theorem op2(O:C.Ok){t u whole:Sem Value}{op:Value->Value->Sem Value}{f g:M V}{k:V->V->Option V}(hx:EvOk C t f)(hy:EvOk C u g)
  (hw:∀(E:Value->Shared->Prop)(Q:Value->Shared->Prop) s,wpAny (model C.prog C.w) C.A t (λv s1=>wpAny (model C.prog C.w) C.A u (λw s2=>wpAny (model C.prog C.w) C.A (op v w) Q E s2) E s1) E s->wpAny (model C.prog C.w) C.A whole Q E s)
  (H:∀{σ s v w a b z},C.St σ s->Rep C.wa C.Bad s.heap v a->Rep C.wa C.Bad s.heap w b->k a b=some z->Op C (op v w) z s):EvOk C whole (f.bind λx=>g.bind λy=>M.lift (k x y)):=by
 intro σ V σ' hf s S E Q h
 refine cps λPP kk=>?_
 obtain⟨a,σ1,h1,hf1⟩:=M.bind_some hf
 obtain⟨b,σ2,h2,hf2⟩:=M.bind_some hf1
 obtain⟨hz,rfl⟩:=M.lift_some hf2
 refine kk ?_
 exact hw E Q s (hx σ a _ h1 s S _ _ λv s1 k1 r1 S1=>hy _ b _ h2 s1 S1 _ _ λw s2 k2 r2 S2=>H S2 (k2.rep O.isBad r1) r2 hz E Q λv' s3 k3 r3=>h v' s3 ((k1.trans k2).trans (.of k3)) r3 (S2.kept O k3))
theorem cm2(O:C.Ok){t u:Sem Value}{op:Value->Value->Sem Value}{f g:M V}{k:V->V->Option Bool}(hx:EvOk C t f)(hy:EvOk C u g)
  (H:∀{σ s v w a b z},C.St σ s->Rep C.wa C.Bad s.heap v a->Rep C.wa C.Bad s.heap w b->k a b=some z->∀(E:Value->Shared->Prop)(Q:Value->Shared->Prop),(∀s',Kept s s'->Q (.bool z) s')->wpAny (model C.prog C.w) C.A (op v w) Q E s){σ σ':Option W}{V:V}(hf:(f.bind λx=>g.bind λy=>(M.lift (k x y)).bind λt=>M.pure (.bool t)) σ=some (V,σ')){s:Shared}(S:C.St σ s){E:Value->Shared->Prop}{Q:Value->Shared->Prop}
  (h:∀b s',V=.bool b->KeptW C.wa s s'->C.St σ' s'->Q (.bool b) s'):wpAny (model C.prog C.w) C.A t (λv s1=>wpAny (model C.prog C.w) C.A u (λw s2=>wpAny (model C.prog C.w) C.A (op v w) Q E s2) E s1) E s:=by
 refine cps λPP kk=>?_
 obtain⟨a,σ1,h1,hf1⟩:=M.bind_some hf
 obtain⟨b,σ2,h2,hf2⟩:=M.bind_some hf1
 obtain⟨z,hz,hf3⟩:=M.bl hf2
 cases hf3
 refine kk ?_
 exact hx σ a _ h1 s S _ _ λv s1 k1 r1 S1=>hy _ b _ h2 s1 S1 _ _ λw s2 k2 r2 S2=>H S2 (k2.rep O.isBad r1) r2 hz E Q λs3 k3=>h z s3 rfl ((k1.trans k2).trans (.of k3)) (S2.kept O k3)
theorem ev_bin(O:C.Ok){l r:PySem.Expr}{op:Operator}{pos:Pos}{f g:M V}(hl:EvOk C (eval l C.env) f)(hr:EvOk C (eval r C.env) g):
  EvOk C (eval (.BinOp l op r pos) C.env) (f.bind λx=>g.bind λy=>M.lift (binV op x y)):=
 op2 O hl hr (λ_ _ _=>wpAny_BinOp) λS ra rb hz E Q h=>bin_ok S.live ra rb hz h
theorem ev_cmp(O:C.Ok){l r:PySem.Expr}{op:CmpOp}{pos:Pos}{f g:M V}(hm:behindInMarks op r=false)(hl:EvOk C (eval l C.env) f)(hr:EvOk C (eval r C.env) g):
  EvOk C (eval (.Compare l [op] [r] pos) C.env) (f.bind λx=>g.bind λy=>(M.lift (cmpV op x y)).bind λt=>M.pure (.bool t)):=λσ V σ' hf s S E Q h=>
 wpAny_Compare1 (cm2 O hl hr (λS ra rb hz E Q h=>cmp_ok ra rb (Nat.lt_of_le_of_lt (Nat.add_le_add_left (by decide) _) O.hu) hz (h _ (Kept.refl _))) hf S λb s' e k S'=>h _ _ k (e▸.bool _) S') hm
theorem tr_cmp(O:C.Ok){l r:PySem.Expr}{op:CmpOp}{pos:Pos}{whole:Sem Value}{f g:M V}(hm:behindInMarks op r=false)(hl:EvOk C (eval l C.env) f)(hr:EvOk C (eval r C.env) g):
  TrOk C (isTrue (.Compare l [op] [r] pos) C.env whole) (f.bind λx=>g.bind λy=>(M.lift (cmpV op x y)).bind λt=>M.pure (.bool t)):=λσ V σ' t hf ht s S E Q h=>
 wpAny_isTrue_Compare1 (cm2 O hl hr (λS ra rb hz E Q h=>cmp_ok ra rb (Nat.lt_of_le_of_lt (Nat.add_le_add_left (by decide) _) O.hu) hz (h _ (Kept.refl _))) hf S λb s' e k S'=>wpAny_truthy_bool (Option.some.inj (e▸ht:)▸h _ k S')) hm
theorem tr_plain{e:PySem.Expr}{whole:Sem Value}{f:M V}(hw:EvOk C whole f)(hi:isTrue e C.env whole=(do let v ←whole;standAt e.pos;holding [v] (truthy v))):TrOk C (isTrue e C.env whole) f:=by
 intro σ V σ' t hf ht s S E Q h
 exact isTrue_plain (hw σ V σ' hf s S _ _ λv s1 k1 r1 S1=>truthy_ok r1 ht (h s1 k1 S1)) hi
end
section
open Cx
variable{C:Cx}
theorem ev_none(O:C.Ok){k:Nat}{pos:Pos}:EvOk C (eval (.Constant .none k pos) C.env) (M.pure .none):=by
 intro σ V σ' hf s S E Q h
 obtain⟨rfl,rfl⟩:=M.pure_some hf
 exact wpAny_pure (h _ _ (.refl s) .none S)
theorem ev_bool(O:C.Ok){b:Bool}{k:Nat}{pos:Pos}:EvOk C (eval (.Constant (.bool b) k pos) C.env) (M.pure (.bool b)):=by
 intro σ V σ' hf s S E Q h
 obtain⟨rfl,rfl⟩:=M.pure_some hf
 exact wpAny_pure (h _ _ (.refl s) (.bool _) S)
theorem ev_int(O:C.Ok){i:Int}{k:Nat}{pos:Pos}:EvOk C (eval (.Constant (.int i) k pos) C.env) (M.pure (.int i)):=by
 intro σ V σ' hf s S E Q h
 obtain⟨rfl,rfl⟩:=M.pure_some hf
 exact wpAny_Constant_int (h _ _ (.of (Kept.tok s _)) (.int _ _) (S.kept O (Kept.tok s _)))
theorem ev_str(O:C.Ok){x:Str}{k:Nat}{pos:Pos}:EvOk C (eval (.Constant (.str x) k pos) C.env) (M.pure (.str x)):=by
 intro σ V σ' hf s S E Q h
 obtain⟨rfl,rfl⟩:=M.pure_some hf
 exact Calls.Constant_str (h _ _ (.of (Kept.tok s _)) (.str _ _) (S.kept O (Kept.tok s _)))
theorem neg_i{x z:V}(h:negV x=some z):∃i,x=.int i/\V.int (-i)=z:=by
 cases x with
 |int i=>exact⟨i,rfl,Option.some.inj h⟩
 |_=>exact nomatch h
theorem ev_neg(O:C.Ok){x:PySem.Expr}{pos:Pos}{f:M V}(hx:EvOk C (eval x C.env) f):
  EvOk C (eval (.UnaryOp .USub x pos) C.env) (f.bind λx=>M.lift (negV x)):=
 op1 O hx (λ_ _ _=>UnaryOp_) λS r hz E Q h=>by
  obtain⟨i,rfl,rfl⟩:=neg_i hz
  obtain⟨t,rfl⟩:=r.inv
  exact neg_int (h _ _ (Kept.tok _ _) (.int _ _))
theorem ev_not(O:C.Ok){x:PySem.Expr}{pos:Pos}{f:M V}(hx:EvOk C (eval x C.env) f):
  EvOk C (eval (.UnaryOp .Not x pos) C.env) (f.bind λx=>(M.lift x.truth).bind λt=>M.pure (.bool (!t))):=λσ V σ' hf s S E Q h=>by
 refine cps λPP kk=>?_
 obtain⟨a,σ1,h1,hf1⟩:=M.bind_some hf
 obtain⟨t,ht,hf2⟩:=M.bl hf1
 cases hf2
 refine kk ?_
 exact UnaryOp_ (hx σ a _ h1 s S _ _ λv s1 k1 r1 S1=>not_of (truthy_ok r1 ht (h _ _ k1 (.bool _) S1)))
theorem tr_not(O:C.Ok){x:PySem.Expr}{pos:Pos}{whole:Sem Value}{f:M V}(hx:TrOk C (isTrue x C.env (eval x C.env)) f):
  TrOk C (isTrue (.UnaryOp .Not x pos) C.env whole) (f.bind λx=>(M.lift x.truth).bind λt=>M.pure (.bool (!t))):=λσ V σ' t hf ht s S E Q h=>by
 refine cps λPP kk=>?_
 obtain⟨a,σ1,h1,hf1⟩:=M.bind_some hf
 obtain⟨t',ht',hf2⟩:=M.bl hf1
 cases hf2
 cases ht
 refine kk ?_
 exact isTrue_not (hx σ a _ t' h1 ht' s S _ _ λs1 k1 S1=>h _ k1 S1)
theorem ev_ite(O:C.Ok){t a b:PySem.Expr}{pos:Pos}{f g k:M V}(ht:TrOk C (isTrue t C.env (eval t C.env)) f)(ha:EvOk C (eval a C.env) g)(hb:EvOk C (eval b C.env) k):
  EvOk C (eval (.IfExp t a b pos) C.env) (f.bind λx=>(M.lift x.truth).bind λc=>if c then g else k):=by
 intro σ V σ' hf s S E Q h
 refine cps λPP kk=>?_
 obtain⟨x,σ1,h1,hf1⟩:=M.bind_some hf
 obtain⟨c,hc,hf2⟩:=M.bl hf1
 refine kk ?_
 refine IfExp_ (ht σ x _ c h1 hc s S _ _ λs1 k1 S1=>?_)
 cases c with
 |true=>exact ha _ V σ' hf2 s1 S1 _ _ λv s2 k2 r2 S2=>h v s2 (k1.trans k2) r2 S2
 |false=>exact hb _ V σ' hf2 s1 S1 _ _ λv s2 k2 r2 S2=>h v s2 (k1.trans k2) r2 S2
theorem tr_ite(O:C.Ok){t a b:PySem.Expr}{pos:Pos}{whole:Sem Value}{f g k:M V}(ht:TrOk C (isTrue t C.env (eval t C.env)) f)(ha:TrOk C (isTrue a C.env (eval a C.env)) g)(hb:TrOk C (isTrue b C.env (eval b C.env)) k):
  TrOk C (isTrue (.IfExp t a b pos) C.env whole) (f.bind λx=>(M.lift x.truth).bind λc=>if c then g else k):=by
 intro σ V σ' u hf hu s S E Q h
 obtain⟨x,σ1,h1,hf1⟩:=M.bind_some hf
 obtain⟨c,hc,hf2⟩:=M.bl hf1
 refine isTrue_IfExp (ht σ x _ c h1 hc s S _ _ λs1 k1 S1=>?_)
 cases c with
 |true=>exact ha _ V σ' u hf2 hu s1 S1 _ _ λs2 k2 S2=>h s2 (k1.trans k2) S2
 |false=>exact hb _ V σ' u hf2 hu s1 S1 _ _ λs2 k2 S2=>h s2 (k1.trans k2) S2
theorem ev_boo_one{op:BoolOp}{e:PySem.Expr}{pos:Pos}{f:M V}(h:EvOk C (eval e C.env) f):EvOk C (eval (.BoolOp op [e] pos) C.env) f:=h
theorem ev_boo_and(O:C.Ok){e e':PySem.Expr}{r:List PySem.Expr}{pos:Pos}{f g:M V}(he:EvOk C (eval e C.env) f)(hr:EvOk C (eval (.BoolOp .And (e'::r) pos) C.env) g):
  EvOk C (eval (.BoolOp .And (e::e'::r) pos) C.env) (f.bind λx=>(M.lift x.truth).bind λt=>if t==true then g else M.pure x):=by
 intro σ V σ' hf s S E Q h
 obtain⟨x,σ1,h1,hf1⟩:=M.bind_some hf
 obtain⟨t,ht,hf2⟩:=M.bl hf1
 refine BoolOp_and (he σ x _ h1 s S _ _ λv s1 k1 r1 S1=>truthy_ok r1 ht ?_)
 cases t with
 |true=>exact hr _ V σ' hf2 s1 S1 _ _ λv s2 k2 r2 S2=>h v s2 (k1.trans k2) r2 S2
 |false=>cases hf2;exact h _ _ k1 r1 S1
theorem ev_boo_or(O:C.Ok){e e':PySem.Expr}{r:List PySem.Expr}{pos:Pos}{f g:M V}(he:EvOk C (eval e C.env) f)(hr:EvOk C (eval (.BoolOp .Or (e'::r) pos) C.env) g):
  EvOk C (eval (.BoolOp .Or (e::e'::r) pos) C.env) (f.bind λx=>(M.lift x.truth).bind λt=>if t==false then g else M.pure x):=by
 intro σ V σ' hf s S E Q h
 obtain⟨x,σ1,h1,hf1⟩:=M.bind_some hf
 obtain⟨t,ht,hf2⟩:=M.bl hf1
 refine BoolOp_or (he σ x _ h1 s S _ _ λv s1 k1 r1 S1=>truthy_ok r1 ht ?_)
 cases t with
 |false=>exact hr _ V σ' hf2 s1 S1 _ _ λv s2 k2 r2 S2=>h v s2 (k1.trans k2) r2 S2
 |true=>cases hf2;exact h _ _ k1 r1 S1
theorem tr_boo_one_and{e:PySem.Expr}{pos:Pos}{whole:Sem Value}{f:M V}(he:TrOk C (isTrue e C.env (eval e C.env)) f):TrOk C (isTrue (.BoolOp .And [e] pos) C.env whole) f:=by
 intro σ V σ' u hf hu s S E Q h
 refine isTrue_and (he σ V σ' u hf hu s S _ _ λs1 k1 S1=>?_)
 cases u with
 |true=>exact isTrue_and_nil (h _ k1 S1)
 |false=>exact h _ k1 S1
theorem tr_boo_one_or{e:PySem.Expr}{pos:Pos}{whole:Sem Value}{f:M V}(he:TrOk C (isTrue e C.env (eval e C.env)) f):TrOk C (isTrue (.BoolOp .Or [e] pos) C.env whole) f:=by
 intro σ V σ' u hf hu s S E Q h
 refine isTrue_or (he σ V σ' u hf hu s S _ _ λs1 k1 S1=>?_)
 cases u with
 |false=>exact isTrue_or_nil (h _ k1 S1)
 |true=>exact h _ k1 S1
theorem tr_boo_and(O:C.Ok){e e':PySem.Expr}{r:List PySem.Expr}{pos:Pos}{whole:Sem Value}{f g:M V}(he:TrOk C (isTrue e C.env (eval e C.env)) f)(hr:TrOk C (isTrue (.BoolOp .And (e'::r) pos) C.env whole) g):
  TrOk C (isTrue (.BoolOp .And (e::e'::r) pos) C.env whole) (f.bind λx=>(M.lift x.truth).bind λt=>if t==true then g else M.pure x):=by
 intro σ V σ' u hf hu s S E Q h
 obtain⟨x,σ1,h1,hf1⟩:=M.bind_some hf
 obtain⟨t,ht,hf2⟩:=M.bl hf1
 refine isTrue_and (he σ x _ t h1 ht s S _ _ λs1 k1 S1=>?_)
 cases t with
 |true=>exact hr _ V σ' u hf2 hu s1 S1 _ _ λs2 k2 S2=>h s2 (k1.trans k2) S2
 |false=>cases hf2;cases ht.symm.trans hu;exact h _ k1 S1
theorem tr_boo_or(O:C.Ok){e e':PySem.Expr}{r:List PySem.Expr}{pos:Pos}{whole:Sem Value}{f g:M V}(he:TrOk C (isTrue e C.env (eval e C.env)) f)(hr:TrOk C (isTrue (.BoolOp .Or (e'::r) pos) C.env whole) g):
  TrOk C (isTrue (.BoolOp .Or (e::e'::r) pos) C.env whole) (f.bind λx=>(M.lift x.truth).bind λt=>if t==false then g else M.pure x):=by
 intro σ V σ' u hf hu s S E Q h
 obtain⟨x,σ1,h1,hf1⟩:=M.bind_some hf
 obtain⟨t,ht,hf2⟩:=M.bl hf1
 refine isTrue_or (he σ x _ t h1 ht s S _ _ λs1 k1 S1=>?_)
 cases t with
 |false=>exact hr _ V σ' u hf2 hu s1 S1 _ _ λs2 k2 S2=>h s2 (k1.trans k2) S2
 |true=>cases hf2;cases ht.symm.trans hu;exact h _ k1 S1
theorem ev_tup(O:C.Ok){xs:List PySem.Expr}{k:Nat}{pos:Pos}{f:M (List V)}(hx:EvsOk C (spliced (backTo pos (starEach xs C.env))) f):
  EvOk C (eval (.Tuple xs k pos) C.env) (f.bind λxs=>M.lift (mkTup xs)):=by
 intro σ V σ' hf s S E Q h
 obtain⟨x,σ1,h1,hf1⟩:=M.bind_some hf
 obtain⟨hz,rfl⟩:=M.lift_some hf1
 exact Tuple_ (hx σ x _ h1 s S _ _ λvs s1 k1 r1 S1=>newTuple_ok S1.live r1 hz λv s2 k2 r2=>h v s2 (k1.trans (.of k2)) r2 (S1.kept O k2))
theorem ev_lst(O:C.Ok){xs:List PySem.Expr}{pos:Pos}{f:M (List V)}(hx:EvsOk C (spliced (backTo pos (starEach xs C.env))) f):
  EvOk C (eval (.List xs pos) C.env) (f.bind λxs=>M.lift (mkLst xs)):=by
 intro σ V σ' hf s S E Q h
 obtain⟨x,σ1,h1,hf1⟩:=M.bind_some hf
 obtain⟨hz,rfl⟩:=M.lift_some hf1
 exact List_ (hx σ x _ h1 s S _ _ λvs s1 k1 r1 S1=>newList_ok S1.live r1 hz λv s2 k2 r2=>h v s2 (k1.trans (.of k2)) r2 (S1.kept O k2))
theorem evs_nil(O:C.Ok){pos:Pos}:EvsOk C (spliced (backTo pos (starEach [] C.env))) (M.pure []):=by
 intro σ V σ' hf s S E Q h
 obtain⟨rfl,rfl⟩:=M.pure_some hf
 exact Calls.spliced_nil (h _ _ (.refl s) .nil S)
theorem evs_cons(O:C.Ok){x:PySem.Expr}{xs:List PySem.Expr}{pos:Pos}{f:M V}{g:M (List V)}(hst:starEach (x::xs) C.env=(false,eval x C.env)::starEach xs C.env)
  (hx:EvOk C (eval x C.env) f)(hxs:EvsOk C (spliced (backTo pos (starEach xs C.env))) g):
  EvsOk C (spliced (backTo pos (starEach (x::xs) C.env))) (f.bind λx=>g.bind λxs=>M.pure (x::xs)):=by
 intro σ V σ' hf s S E Q h
 refine cps λPP kk=>?_
 obtain⟨a,σ1,h1,hf1⟩:=M.bind_some hf
 obtain⟨as,σ2,h2,hf2⟩:=M.bind_some hf1
 obtain⟨rfl,rfl⟩:=M.pure_some hf2
 refine kk ?_
 rw[hst]
 exact Calls.spliced_cons (hx σ a σ1 h1 s S _ _ λv s1 k1 r1 S1=>hxs σ1 as _ h2 s1 S1 _ _ λvs s2 k2 r2 S2=>h _ _ (k1.trans k2) (.cons (k2.rep O.isBad r1) r2) S2)
noncomputable def isSeq:V->Bool
 |.tup _=>true
 |.lst _=>true
 |_=>false
theorem rep_type{wa:Option (Addr×Option Addr)}{Bad:Addr->Prop}{s:Shared}{v:Value}{x:V}(r:Rep wa Bad s.heap v x)(h:isSeq x=true):
  ∃T id,s.TypeIs v T/\typeLookup (.type T) "__getitem__"=pure (some (.builtin id)):=by
 cases r with
 |tup na ha q=>exact⟨_,_,ha.isTup.typeIs,F.slot_tuple_getitem.lookup⟩
 |lst na ha q=>exact⟨_,_,ha.is.typeIs,F.slot_list_getitem.lookup⟩
 |_=>exact nomatch h
theorem sub_kind{x y z:V}(h:subV x y=some z):isSeq x=true:=by
 cases y with
 |int=>cases x<;>first|rfl|exact nomatch h
 |_=>exact nomatch h
theorem slc_kind{x z:V}{l:Int}{hi:Option Int}(h:slcV x l hi=some z):isSeq x=true:=by cases x<;>first|rfl|exact nomatch h
theorem ev_sub(O:C.Ok){x k:PySem.Expr}{pos:Pos}{f g:M V}(hx:EvOk C (eval x C.env) f)(hk:EvOk C (eval k C.env) g):
  EvOk C (eval (.Subscript x k pos) C.env) (f.bind λx=>g.bind λk=>M.lift (subV x k)):=
 op2 O hx hk (λ_ _ _=>Subscript_) λS ra rb hz E Q h=>let⟨T,id,hT,hl⟩:=rep_type ra (sub_kind hz);tail_ok hT hl (getItem_ok ra rb hz λz rz=>h z _ (.refl _) rz)
theorem ev_subO(O:C.Ok){i:Nat}{x:Str}{p:Pos}{k:PySem.Expr}{pos:Pos}{g:M V}(hl:locOk C.tb i x=true)(hk:EvOk C (eval k C.env) g):
  EvOk C (eval (.Subscript (.Name x p) k pos) C.env) ((M.lift (getO C.ρ i)).bind λxs=>g.bind λk=>M.lift (subV (.lst xs) k)):=by
 intro σ V σ' hf s S E Q h
 refine cps λPP kk=>?_
 obtain⟨xs,ho,hf1⟩:=M.bl hf
 obtain⟨b,σ2,h2,hf2⟩:=M.bind_some hf1
 obtain⟨hz,rfl⟩:=M.lift_some hf2
 refine kk ?_
 refine Subscript_ (own_name O hl ho S λa vs q1 q2 q3 q4 q5=>hk _ b _ h2 s S _ _ λu s2 k2 r2 S2=>?_)
 have q3':LstAt s2.heap a vs:=q3.elim λn q=>⟨n,k2.heap _ _ q2 q⟩
 refine tail_ok q3'.is.typeIs F.slot_list_getitem.lookup ?_
 cases b with
 |int j=>
  obtain⟨t,rfl⟩:=r2.inv
  exact getItem_lst q3' (k2.reps O.isBad q4) hz λz rz=>h z s2 k2 rz S2
 |_=>exact nomatch hz
end
section
open Cx
variable{C:Cx}
theorem sliceObj{M:Model}{A:Around}{E:Value->Shared->Prop}{s:Shared}{l u:Value}{Q:Value->Shared->Prop}(h:Q (.ref s.heap.objs.size) {s with heap:=s.heap.push {cls:=.type "slice",data:=.fields #[l,u,.none]}}):
  wpAny M A (newFields "slice" [l,u,.none]) Q E s:=wpAny_newObj_type h (by show(3:Nat)<=sizeLine+2;rw[sizeLine_eq];exact Nat.le_add_left _ _)
theorem slc_tail(O:C.Ok){σ:Option W}{s:Shared}{value slice:PySem.Expr}{a l u:Value}{x z:V}{lo hi:Option Int}{E:Value->Shared->Prop}{Q:Value->Shared->Prop}(S:C.St σ s)(ra:Rep C.wa C.Bad s.heap a x)
  (pl:IsPart l lo)(pu:IsPart u hi)(hz:slcV x (lo.getD 0) hi=some z)(h:∀v s',Kept s s'->Rep C.wa C.Bad s'.heap v z->Q v s'):
  wpAny (model C.prog C.w) C.A (newFields "slice" [l,u,.none]) (λi s₂=>wpAny (model C.prog C.w) C.A (subscriptTail value slice a i) Q E s₂) E s:=by
 refine sliceObj ?_
 have k:Kept s {s with heap:=s.heap.push {cls:=.type "slice",data:=.fields #[l,u,.none]}}:=Kept.push s _
 have S':=S.kept O k
 have ra':=ra.keep k.heap
 obtain⟨T,id,hT,hl⟩:=rep_type (s:={s with heap:=s.heap.push {cls:=.type "slice",data:=.fields #[l,u,.none]}}) ra' (slc_kind hz)
 exact tail_ok hT hl (slc_ok S'.live ra' (Heap.IsSliceOf.new ..) pl pu hz λv s2 k2 r2=>h v s2 (k.trans k2) r2)
theorem slcL_i{x l z:V}(h:slcLV x l=some z):∃i,l=.int i/\slcV x i none=some z:=by
 cases l with
 |int i=>exact⟨i,rfl,h⟩
 |_=>exact nomatch h
theorem slcH_i{x l z:V}(h:slcHV x l=some z):∃i,l=.int i/\slcV x 0 (some i)=some z:=by
 cases l with
 |int i=>exact⟨i,rfl,h⟩
 |_=>exact nomatch h
theorem slcB_i{x l u z:V}(h:slcBV x l u=some z):∃i j,l=.int i/\u=.int j/\slcV x i (some j)=some z:=by
 cases l with
 |int i=>cases u with
  |int j=>exact⟨i,j,rfl,rfl,h⟩
  |_=>exact nomatch h
 |_=>exact nomatch h
theorem ev_slcL(O:C.Ok){x lo:PySem.Expr}{p pos:Pos}{f g:M V}(hx:EvOk C (eval x C.env) f)(hl:EvOk C (eval lo C.env) g):
  EvOk C (eval (.Subscript x (.Slice (some lo) none none p) pos) C.env) (f.bind λx=>g.bind λl=>M.lift (slcLV x l)):=by
 intro σ V σ' hf s S E Q h
 obtain⟨a,σ1,h1,hf1⟩:=M.bind_some hf
 obtain⟨b,σ2,h2,hf2⟩:=M.bind_some hf1
 obtain⟨hz,rfl⟩:=M.lift_some hf2
 obtain⟨i,rfl,hz⟩:=slcL_i hz
 refine Subscript_ (hx σ a σ1 h1 s S _ _ λv s1 k1 r1 S1=>?_)
 show wpAny _ _ (do let l ←eval lo C.env;let u ←holding [l] (pure Value.none);let s ←holding [l,u] (pure Value.none);newFields "slice" [l,u,s]) _ _ _
 refine wpAny_bind (hl σ1 _ _ h2 s1 S1 _ _ λvl s2 k2 r2 S2=>wpAny_bind (wpAny_holding (wpAny_pure (wpAny_bind (wpAny_holding (wpAny_pure ?_))))))
 obtain⟨t,rfl⟩:=r2.inv
 exact slc_tail O S2 (k2.rep O.isBad r1) (.int _ _) .none hz λz s3 k3 r3=>h z s3 ((k1.trans k2).trans (.of k3)) r3 (S2.kept O k3)
theorem ev_slcH(O:C.Ok){x hi:PySem.Expr}{p pos:Pos}{f g:M V}(hx:EvOk C (eval x C.env) f)(hl:EvOk C (eval hi C.env) g):
  EvOk C (eval (.Subscript x (.Slice none (some hi) none p) pos) C.env) (f.bind λx=>g.bind λl=>M.lift (slcHV x l)):=by
 intro σ V σ' hf s S E Q h
 obtain⟨a,σ1,h1,hf1⟩:=M.bind_some hf
 obtain⟨b,σ2,h2,hf2⟩:=M.bind_some hf1
 obtain⟨hz,rfl⟩:=M.lift_some hf2
 obtain⟨i,rfl,hz⟩:=slcH_i hz
 refine Subscript_ (hx σ a σ1 h1 s S _ _ λv s1 k1 r1 S1=>?_)
 show wpAny _ _ (do let l ←(pure Value.none:Sem Value);let u ←holding [l] (eval hi C.env);let s ←holding [l,u] (pure Value.none);newFields "slice" [l,u,s]) _ _ _
 refine wpAny_bind (wpAny_pure (wpAny_bind (wpAny_holding (hl σ1 _ _ h2 s1 S1 _ _ λvl s2 k2 r2 S2=>wpAny_bind (wpAny_holding (wpAny_pure ?_))))))
 obtain⟨t,rfl⟩:=r2.inv
 exact slc_tail O S2 (k2.rep O.isBad r1) .none (.int _ _) hz λz s3 k3 r3=>h z s3 ((k1.trans k2).trans (.of k3)) r3 (S2.kept O k3)
theorem ev_slcB(O:C.Ok){x lo hi:PySem.Expr}{p pos:Pos}{f g k:M V}(hx:EvOk C (eval x C.env) f)(hl:EvOk C (eval lo C.env) g)(hh:EvOk C (eval hi C.env) k):
  EvOk C (eval (.Subscript x (.Slice (some lo) (some hi) none p) pos) C.env) (f.bind λx=>g.bind λl=>k.bind λh=>M.lift (slcBV x l h)):=by
 intro σ V σ' hf s S E Q h
 refine cps λPP kk=>?_
 obtain⟨a,σ1,h1,hf1⟩:=M.bind_some hf
 obtain⟨b,σ2,h2,hf2⟩:=M.bind_some hf1
 obtain⟨c,σ3,h3,hf3⟩:=M.bind_some hf2
 obtain⟨hz,rfl⟩:=M.lift_some hf3
 obtain⟨i,j,rfl,rfl,hz⟩:=slcB_i hz
 refine kk ?_
 refine Subscript_ (hx σ a σ1 h1 s S _ _ λv s1 k1 r1 S1=>?_)
 show wpAny _ _ (do let l ←eval lo C.env;let u ←holding [l] (eval hi C.env);let s ←holding [l,u] (pure Value.none);newFields "slice" [l,u,s]) _ _ _
 refine wpAny_bind (hl σ1 _ σ2 h2 s1 S1 _ _ λvl s2 k2 r2 S2=>wpAny_bind (wpAny_holding (hh σ2 _ _ h3 s2 S2 _ _ λvh s3 k3 r3 S3=>wpAny_bind (wpAny_holding (wpAny_pure ?_)))))
 obtain⟨t,rfl⟩:=r2.inv
 obtain⟨u,rfl⟩:=r3.inv
 exact slc_tail O S3 (k3.rep O.isBad (k2.rep O.isBad r1)) (.int _ _) (.int _ _) hz λz s4 k4 r4=>h z s4 (((k1.trans k2).trans k3).trans (.of k4)) r4 (S3.kept O k4)
theorem callWith_plain{M:Model}{A:Around}{E:Value->Shared->Prop}{s:Shared}{pos:Pos}{f:Value}{first:List Value}{args:List (Bool×Sem Value)}{Q:Value->Shared->Prop}(hf:∀a,f≠.ref a)(hplain:args.any (·.1)=false)
  (h:wpAny M A (evalArgs f true args []) (λa s₁=>wpAny M A (call f (first++a.pos) a.kw) Q E s₁) E s):wpAny M A (callWith pos f first args []) Q E s:=by
 unfold callWith
 refine wpAny_bind (wpAny_holding (wpAny_mono h (λa s₁ h₁=>wpAny_bind (wpAny_standAt ?_)) λ_ _ x=>x))
 have hk:keeperOf f=pure .machine:=by
  unfold keeperOf
  cases f<;>first|rfl|exact absurd rfl (hf _)
 rw[hplain]
 simp only[List.any_nil,Bool.or_false]
 refine wpAny_bind (wpAny_of_eq hk ?_)
 exact wpAny_bind (wpAny_mono h₁ (λr s₂ h₂=>wpAny_bind (wpAny_holding (wpAny_point (wpAny_pure h₂)))) λ_ _ x=>x)
theorem backTo_plain{pos:Pos}{env:PySem.Env}:∀{xs:List PySem.Expr},(∀x∈xs,∀r,starEach (x::r) env=(false,eval x env)::starEach r env)->(backTo pos (starEach xs env)).any (·.1)=false
 |[],_=>rfl
 |x::r,h=>by
  rw[h x (List.mem_cons_self ..)]
  show((backTo pos ((false,eval x env)::starEach r env)).any (·.1))=false
  have:=backTo_plain (pos:=pos) (env:=env) (xs:=r) λy hy=>h y (List.mem_cons_of_mem _ hy)
  trivial
theorem evalArgs_ok(O:C.Ok){f:Value}{xs:List PySem.Expr}{pos:Pos}{g:M (List V)}(hne:xs≠[])(hst:∀x∈xs,∀r,starEach (x::r) C.env=(false,eval x C.env)::starEach r C.env)
  (hx:EvsOk C (spliced (backTo pos (starEach xs C.env))) g){σ:Option W}{V:List V}{σ':Option W}(hf:g σ=some (V,σ')){s:Shared}(S:C.St σ s){E:Value->Shared->Prop}{Q:Args->Shared->Prop}
  (h:∀v s',KeptW C.wa s s'->Reps C.wa C.Bad s'.heap v V->C.St σ' s'->Q {pos:=v} s'):wpAny (model C.prog C.w) C.A (evalArgs f true (backTo pos (starEach xs C.env)) []) Q E s:=by
 cases xs with
 |nil=>exact absurd rfl hne
 |cons x r=>
  have:=hst x (List.mem_cons_self ..) r
  rw[this]at hx ⊢
  exact Calls.evalArgs_plain (hx σ V σ' hf s S _ _ h)
end
section
open Cx
variable{C:Cx}
theorem ev_bif(O:C.Ok){b:Bif}{x:Str}{p pos:Pos}{xs:List PySem.Expr}{f:M (List V)}(hg:globOk C.env.kindOf x=true)(hn:bifName b=x)(hne:xs≠[])
  (hst:∀x∈xs,∀r,starEach (x::r) C.env=(false,eval x C.env)::starEach r C.env)(hx:EvsOk C (spliced (backTo pos (starEach xs C.env))) f):
  EvOk C (eval (.Call (.Name x p) xs [] pos) C.env) (f.bind λxs=>M.lift (bifV b xs)):=by
 intro σ V σ' hf s S E Q h
 obtain⟨as,σ1,h1,hf1⟩:=M.bind_some hf
 obtain⟨hz,rfl⟩:=M.lift_some hf1
 subst hn
 obtain⟨e1,e2⟩:=O.base.bltn b
 refine wpAny_Call_Name_kw (load_blt O hg e1 e2 S ?_)
 refine callWith_plain (λa e=>by cases b<;>exact nomatch e) (backTo_plain hst) ?_
 refine evalArgs_ok O hne hst hx h1 S λvs s1 k1 r1 S1=>?_
 exact bif_ok S1.live O.hh r1 hz λv s2 k2 r2=>h v s2 (k1.trans (.of k2)) r2 (S1.kept O k2)
theorem ev_isTup(O:C.Ok){x y:Str}{p p2 pos:Pos}{e:PySem.Expr}{f:M V}(hg:globOk C.env.kindOf x=true)(hg2:globOk C.env.kindOf y=true)(hx:x=Str.ofString "isinstance")(hy:y=Str.ofString "tuple")
  (hst:∀r,starEach (e::r) C.env=(false,eval e C.env)::starEach r C.env)(he:EvOk C (eval e C.env) f):
  EvOk C (eval (.Call (.Name x p) [e,.Name y p2] [] pos) C.env) (f.bind λx=>(M.lift (isTupV x)).bind λb=>M.pure (.bool b)):=by
 intro σ V σ' hf s S E Q h
 refine cps λPP kk=>?_
 obtain⟨a,σ1,h1,hf1⟩:=M.bind_some hf
 obtain⟨b,hb,hf2⟩:=M.bl hf1
 cases hf2
 subst hx
 refine kk ?_
 refine wpAny_Call_Name_kw (load_blt O hg O.base.isi.1 O.base.isi.2 S ?_)
 refine callWith_plain (λa e=>nomatch e) ?_ ?_
 ·rw[hst];rfl
 ·rw[hst]
  refine Calls.evalArgs_plain (Calls.spliced_cons (he σ a _ h1 s S _ _ λv s1 k1 r1 S1=>?_))
  have e:starEach [Expr.Name y p2] C.env=[(false,eval (.Name y p2) C.env)]:=rfl
  rw[e]
  obtain⟨e1,e2⟩:=O.base.bltn .tuple
  subst hy
  exact Calls.spliced_cons (load_blt O hg2 e1 e2 S1 (Calls.spliced_nil (isTup_ok r1 hb λs2 k2=>h _ s2 (k1.trans (.of k2)) (.bool _) (S1.kept O k2))))
noncomputable def PhiOk(C:Cx)(Φ:Nat->List V->M V):Prop:=∀f d,fns f=some d->∃a o fd,C.mg d.name=some (.ref a)/\C.H.get? a=some o/\o.data=.func fd/\
 ∀xs σ V σ',Φ f xs σ=some (V,σ')->∀(s:Shared)(vs:List Value),(∀b o,C.H.get? b=some o->s.heap.get? b=some o)->(∀b,s.heap.get? b=none->¬C.Bad b)->WOk C.prog C.w C.wa C.Bad s.heap σ->Reps C.wa C.Bad s.heap vs xs->
  ∀(E:Value->Shared->Prop)(Q:Value->Shared->Prop),(∀v s',KeptW C.wa s s'->Rep C.wa C.Bad s'.heap v V->WOk C.prog C.w C.wa C.Bad s'.heap σ'->Q v s')->wpAny (model C.prog C.w) C.A (call (.ref a) vs) Q E s
theorem ev_call(O:C.Ok){Φ:Nat->List V->M V}(hΦ:PhiOk C Φ){n:Nat}{x:Str}{p pos:Pos}{xs:List PySem.Expr}{f:M (List V)}(hg:globOk C.env.kindOf x=true)(hn:isFnName n x=true)(hne:xs≠[])
  (hst:∀x∈xs,∀r,starEach (x::r) C.env=(false,eval x C.env)::starEach r C.env)(hx:EvsOk C (spliced (backTo pos (starEach xs C.env))) f):
  EvOk C (eval (.Call (.Name x p) xs [] pos) C.env) (f.bind λxs=>Φ n xs):=by
 intro σ V σ' hf s S E Q h
 obtain⟨as,σ1,h1,hf1⟩:=M.bind_some hf
 unfold isFnName at hn
 cases hd:fns n with
 |none=>rw[hd]at hn;exact nomatch hn
 |some d=>
  rw[hd]at hn
  refine cps λPP kk=>?_
  obtain⟨a,o,fd,q1,q2,q3,q4⟩:=hΦ n d hd
  refine kk ?_
  refine wpAny_Call_Name_kw (load_glob O hg ((eq_of_beq hn:d.name=x)▸q1) S ?_)
  refine callWith_function_kw (o:=o) (fd:=fd) ?_
  refine evalArgs_ok O hne hst hx h1 S λvs s1 k1 r1 S1=>⟨⟨S1.keep _ _ q2,q3⟩,?_⟩
  exact q4 as σ1 V σ' hf1 s1 vs S1.keep S1.live S1.w r1 _ _ λv s2 k2 r2 w2=>h v s2 (k1.trans k2) r2 (S1.keptW O k2 w2)
theorem ev_join(O:C.Ok){u at_:Str}{k:Nat}{p ap pos:Pos}{e:PySem.Expr}{f:M V}(hline:(ap.endLine==pos.line)=true)(hu:u=Str.empty)(ha:at_=Str.ofString "join")
  (hst:∀r,starEach (e::r) C.env=(false,eval e C.env)::starEach r C.env)(he:EvOk C (eval e C.env) f):
  EvOk C (eval (.Call (.Attribute (.Constant (.str u) k p) at_ ap) [e] [] pos) C.env) (f.bind λx=>M.lift (joinV x)):=by
 intro σ V σ' hf s S E Q h
 obtain⟨a,σ1,h1,hf1⟩:=M.bind_some hf
 obtain⟨hz,rfl⟩:=M.lift_some hf1
 subst hu;subst ha
 refine wpAny_Call_method1_late rfl hline (by rw[hst];rfl) (Calls.Constant_str ?_)
 have S0:=S.kept O (Kept.tok s (s.toks+1))
 refine⟨"str","str.join",F.plainAttrs_str,F.slot_str_join,F.type_str_join,typeIs_str _ _ _,(λ_ e=>nomatch e),?_⟩
 refine callWith_plain (λa e=>nomatch e) rfl (Calls.evalArgs_plain (Calls.spliced_cons (he σ a _ h1 _ S0 _ _ λv s1 k1 r1 S1=>Calls.spliced_nil ?_)))
 exact join_ok r1 hz λv s2 k2 r2=>h v s2 (((KeptW.of (Kept.tok s (s.toks+1))).trans k1).trans (.of k2)) r2 (S1.kept O k2)
theorem St.map{σ:Option W}{s:Shared}(S:C.St σ s){a:Addr}{f:Int->Option Value}(hm:C.H.MapOf (intKind C.prog C.w) a f):s.heap.MapOf (intKind C.prog C.w) a f:=
 let⟨o,es,ep,ho,q⟩:=hm;⟨o,es,ep,S.keep _ _ ho,q⟩
theorem ev_dget(O:C.Ok){x:Str}{d:List (Int×V)}{p pos:Pos}{i:PySem.Expr}{g:M V}(hg:globOk C.env.kindOf x=true)(hd:dictOk x d=true)(hi:EvOk C (eval i C.env) g):
  EvOk C (eval (.Subscript (.Name x p) i pos) C.env) (g.bind λx=>M.lift (dgetV d x)):=by
 intro σ V σ' hf s S E Q h
 refine cps λPP kk=>?_
 obtain⟨b,σ1,h1,hf1⟩:=M.bind_some hf
 obtain⟨hz,rfl⟩:=M.lift_some hf1
 obtain⟨a,f,e1,e2,hm,hv⟩:=O.base.dict x _ (dictOk_ok hd)
 refine kk ?_
 refine Subscript_ (load_glob O hg e1 S (hi σ b _ h1 s S _ _ λu s1 k1 r1 S1=>?_))
 cases b with
 |int j=>
  obtain⟨z,hz',rz⟩:=(hv j).1 V hz
  obtain⟨t,rfl⟩:=r1.inv
  have hm':=St.map S1 hm
  refine tail_ok hm'.typeIs F.slot_dict_getitem.lookup (wpAny_getItem_of (knd:=intKind C.prog C.w) (intKind_is _ _ _ _) hm' hz' ?_)
  exact h _ _ (k1.trans (.of (Kept.tok _ _))) (rz _ _ _ S1.keep O.badH) (S1.kept O (Kept.tok _ _))
 |_=>exact nomatch hz
theorem ev_dgetD(O:C.Ok){x at_:Str}{d:List (Int×V)}{p ap pos:Pos}{i e:PySem.Expr}{g k:M V}(hline:(ap.endLine==pos.line)=true)(hg:globOk C.env.kindOf x=true)(hd:dictOk x d=true)(ha:at_=Str.ofString "get")
  (hst:∀r,starEach (i::r) C.env=(false,eval i C.env)::starEach r C.env)(hst2:∀r,starEach (e::r) C.env=(false,eval e C.env)::starEach r C.env)(hi:EvOk C (eval i C.env) g)(he:EvOk C (eval e C.env) k):
  EvOk C (eval (.Call (.Attribute (.Name x p) at_ ap) [i,e] [] pos) C.env) (g.bind λx=>k.bind λy=>M.lift (dgetDV d x y)):=by
 intro σ V σ' hf s S E Q h
 refine cps λPP kk=>?_
 obtain⟨b,σ1,h1,hf1⟩:=M.bind_some hf
 obtain⟨c,σ2,h2,hf2⟩:=M.bind_some hf1
 obtain⟨hz,rfl⟩:=M.lift_some hf2
 subst ha
 obtain⟨a,f,e1,e2,hm,hv⟩:=O.base.dict x _ (dictOk_ok hd)
 refine kk ?_
 refine wpAny_Call_method2_late rfl hline (by rw[hst,hst2];rfl) (load_glob O hg e1 S ?_)
 refine⟨"dict","dict.get",F.plainAttrs_dict,F.slot_dict_get,F.type_dict_get,(St.map S hm).typeIs,(St.map S hm).noDict,wpAny_dict_get2 (knd:=intKind C.prog C.w) e2 ?_⟩
 refine hi σ b σ1 h1 s S _ _ λu s1 k1 r1 S1=>he σ1 c _ h2 s1 S1 _ _ λy s2 k2 r2 S2=>?_
 cases b with
 |int j=>
  refine cps λPP kk=>?_
  obtain⟨t,rfl⟩:=r1.inv
  cases hz
  refine kk ?_
  refine⟨j,f,intKind_is _ _ _ _,St.map S2 hm,h _ _ ((k1.trans k2).trans (.of (Kept.tok _ _))) ?_ (S2.kept O (Kept.tok _ _))⟩
  cases q:dictGet d j with
  |none=>rw[(hv j).2 q];exact r2
  |some z=>obtain⟨u,hu,ru⟩:=(hv j).1 z q;rw[hu];exact ru _ _ _ S2.keep O.badH
 |_=>exact nomatch hz
theorem wpAny_notIn_of'{prog:Program}{w:World}{A:Around}{E:Value->Shared->Prop}{s:Shared}{d:Addr}{k:Int}{t:Tok}{f:Int->Option Value}{Q:Value->Shared->Prop}(hd:(d==sysModules)=false)(hm:s.heap.MapOf (intKind prog w) d f)
  (h:Q (.bool (f k).isNone) {s with toks:=s.toks+1}):wpAny (model prog w) A (compareOp .NotIn (.int k t) (.ref d)) Q E s:=by
 have e:=wpAny_in_of (prog:=prog) (w:=w) (A:=A) (E:=E) (s:=s) (knd:=intKind prog w) (Q:=λv s'=>∃b,v=.bool b/\Q (.bool (!b)) s') (intKind_is prog w k t) hd hm ⟨_,rfl,by rw[Option.not_isSome];exact h⟩
 show wpAny _ _ (do return Value.bool (!(←contains (.ref d) (.int k t))):Sem Value) _ _ _
 have e':wpAny (model prog w) A (do return Value.bool (←contains (.ref d) (.int k t)):Sem Value) (λv s'=>∃b,v=.bool b/\Q (.bool (!b)) s') E s:=e
 intro Γ p hΓ
 have q:=e' Γ p hΓ
 rw[Sem.wp_bind']at q ⊢
 refine Sem.wp_mono _ _ _ (λb p' s' hb=>?_) (λ_ _ _ x=>x) _ _ q
 refine cps λPP kk=>?_
 obtain⟨b',e1,e2⟩:=hb
 cases e1
 refine kk ?_
 exact e2
theorem dnin_ok(O:C.Ok){x:Str}{d:List (Int×V)}(hd:dictOk x d=true){g:M V}{σ σ':Option W}{V:V}(hf:(g.bind λx=>(M.lift (dninV d x)).bind λt=>M.pure (.bool t)) σ=some (V,σ')){i:PySem.Expr}{p:Pos}(hg:globOk C.env.kindOf x=true)(hi:EvOk C (eval i C.env) g)
  {s:Shared}(S:C.St σ s){E:Value->Shared->Prop}{Q:Value->Shared->Prop}(h:∀b s',V=.bool b->KeptW C.wa s s'->C.St σ' s'->Q (.bool b) s'):
  wpAny (model C.prog C.w) C.A (eval i C.env) (λu s1=>wpAny (model C.prog C.w) C.A (eval (.Name x p) C.env) (λv s2=>wpAny (model C.prog C.w) C.A (compareOp .NotIn u v) Q E s2) E s1) E s:=by
 refine cps λPP kk=>?_
 obtain⟨b,σ1,h1,hf1⟩:=M.bind_some hf
 obtain⟨t,hz,hf2⟩:=M.bl hf1
 cases hf2
 obtain⟨a,f,e1,e2,hm,hv⟩:=O.base.dict x _ (dictOk_ok hd)
 refine kk ?_
 refine hi σ b _ h1 s S _ _ λu s1 k1 r1 S1=>load_glob O hg e1 S1 ?_
 cases b with
 |int j=>
  obtain⟨t,rfl⟩:=r1.inv
  refine wpAny_notIn_of' e2 (St.map S1 hm) (h _ _ (congrArg V.bool ?_) (k1.trans (.of (Kept.tok _ _))) (S1.kept O (Kept.tok _ _)))
  rw[←Option.some.inj hz]
  cases q:dictGet d j with
  |none=>rw[(hv j).2 q];rfl
  |some z=>obtain⟨u,hu,_⟩:=(hv j).1 z q;rw[hu];rfl
 |_=>exact nomatch hz
theorem ev_dnin(O:C.Ok){x:Str}{d:List (Int×V)}{p pos:Pos}{i:PySem.Expr}{g:M V}(hg:globOk C.env.kindOf x=true)(hd:dictOk x d=true)(hi:EvOk C (eval i C.env) g):
  EvOk C (eval (.Compare i [.NotIn] [.Name x p] pos) C.env) (g.bind λx=>(M.lift (dninV d x)).bind λt=>M.pure (.bool t)):=λσ V σ' hf s S E Q h=>
 wpAny_Compare1 (dnin_ok O hd hf hg hi S λb s' e k S'=>h _ _ k (e▸.bool _) S') rfl
theorem tr_dnin(O:C.Ok){x:Str}{d:List (Int×V)}{p pos:Pos}{i:PySem.Expr}{whole:Sem Value}{g:M V}(hg:globOk C.env.kindOf x=true)(hd:dictOk x d=true)(hi:EvOk C (eval i C.env) g):
  TrOk C (isTrue (.Compare i [.NotIn] [.Name x p] pos) C.env whole) (g.bind λx=>(M.lift (dninV d x)).bind λt=>M.pure (.bool t)):=λσ V σ' t hf ht s S E Q h=>
 wpAny_isTrue_Compare1 (dnin_ok O hd hf hg hi S λb s' e k S'=>wpAny_truthy_bool (Option.some.inj (e▸ht:)▸h _ k S')) rfl
end
section
open Cx
variable{C:Cx}
noncomputable def EvpOk(C:Cx)(x:Sem (List (Value×Value)))(f:M (List V×List V)):Prop:=∀σ ks vs σ',f σ=some ((ks,vs),σ')->∀(s:Shared),C.St σ s->∀(E:Value->Shared->Prop)(Q:List (Value×Value)->Shared->Prop),
 (∀ps s',KeptW C.wa s s'->Reps C.wa C.Bad s'.heap (ps.map (·.1)) ks->Reps C.wa C.Bad s'.heap (ps.map (·.2)) vs->C.St σ' s'->Q ps s')->wpAny (model C.prog C.w) C.A x Q E s
theorem evp_nil(O:C.Ok){pos:Pos}:EvpOk C (evalPairs (pairTrees [] [] C.env pos)) (M.pure ([],[])):=λσ ks vs σ' hf s S E Q h=>by
 refine cps λPP kk=>?_
 cases hf
 refine kk ?_
 exact evalPairs_nil (h [] _ (.refl s) .nil .nil S)
theorem evp_cons(O:C.Ok){k v:PySem.Expr}{ks:List (Option PySem.Expr)}{vs:List PySem.Expr}{pos:Pos}{f g:M V}{r:M (List V×List V)}(hk:EvOk C (eval k C.env) f)(hv:EvOk C (eval v C.env) g)(hr:EvpOk C (evalPairs (pairTrees ks vs C.env pos)) r):
  EvpOk C (evalPairs (pairTrees (some k::ks) (v::vs) C.env pos)) (f.bind λx=>g.bind λy=>r.bind λr=>M.pure (x::r.1,y::r.2)):=by
 intro σ xs ys σ' hf s S E Q h
 refine cps λPP kk=>?_
 obtain⟨a,σ1,h1,hf1⟩:=M.bind_some hf
 obtain⟨b,σ2,h2,hf2⟩:=M.bind_some hf1
 obtain⟨p,σ3,h3,hf3⟩:=M.bind_some hf2
 cases hf3
 refine kk ?_
 exact evalPairs_cons (hk σ a σ1 h1 s S _ _ λkv s1 k1 r1 S1=>wpAny_bind (hv σ1 b σ2 h2 s1 S1 _ _ λvv s2 k2 r2 S2=>wpAny_bind (wpAny_standAt (wpAny_pure (hr σ2 _ _ _ h3 s2 S2 _ _ λps s3 k3 r3 r4 S3=>
  h _ _ ((k1.trans k2).trans k3) (.cons (k3.rep O.isBad (k2.rep O.isBad r1)) r3) (.cons (k3.rep O.isBad r2) r4) S3)))))
section
variable{wa:Option (Addr×Option Addr)}{Bad:Addr->Prop}{h:Heap}
theorem valueAt_cons{K:Type}[DecidableEq K](k x:K)(v:Value)(r:List (K×Value)):valueAt ((k,v)::r) x=if k=x then some v else valueAt r x:=by
 unfold valueAt
 rw[List.find?_cons]
 by_cases e:k=x
 ·rw[if_pos e,decide_eq_true (show(k,v).fst=x from e)];rfl
 ·rw[if_neg e,decide_eq_false (show¬(k,v).fst=x from e)]
structure Keys(wa:Option (Addr×Option Addr))(Bad:Addr->Prop)(h:Heap){K:Type}[DecidableEq K](mk:K->V)(P:List (Value×Value)->List (K×Value))(ok:List (Value×Value)->Bool):Prop where
 nil:ok []=true/\P []=[]
 cons:∀{k j},Rep wa Bad h k (mk j)->∀v r,P ((k,v)::r)=(j,v)::P r/\ok ((k,v)::r)=ok r
 beq:∀i j,V.beq (mk i) (mk j)=(i==j)
theorem pick_gen{K:Type}[DecidableEq K]{mk:K->V}{P:List (Value×Value)->List (K×Value)}{ok:List (Value×Value)->Bool}(X:Keys wa Bad h mk P ok):∀(js:List K)(ps:List (Value×Value))(vs:List V),Reps wa Bad h (ps.map (·.1)) (js.map mk)->Reps wa Bad h (ps.map (·.2)) vs->noDup (js.map mk)=true->
  ok ps=true/\(P ps).map (·.1)=js/\js.Nodup/\∀i z,pickV (js.map mk) vs (mk i)=some z->∃u,valueAt (P ps) i=some u/\Rep wa Bad h u z
 |[],[],vs,r1,r2,d=>⟨X.nil.1,X.nil.2▸rfl,List.nodup_nil,λi z e=>nomatch e⟩
 |[],_::_,_,r1,_,_=>nomatch r1.length
 |_::_,[],_,r1,_,_=>nomatch r1.length
 |_::_,_::_,[],_,r2,_=>nomatch r2.length
 |j::js,(k,v)::ps,x::vs,r1,r2,d=>by
  cases r1 with
  |cons p1 r1=>cases r2 with
   |cons p2 r2=>
    refine cps λPP kk=>?_
    obtain⟨i1,i2,i3,i4⟩:=pick_gen X js ps vs r1 r2 (and_i d).2
    obtain⟨c1,c2⟩:=X.cons p1 v ps
    refine kk ?_
    rw[c1,c2]
    refine⟨i1,congrArg (List.cons j) i2,List.nodup_cons.mpr ⟨λm=>?_,i3⟩,λi z e=>?_⟩
    ·have d1:(js.map mk).any (λy=>V.beq y (mk j))=true:=List.any_eq_true.mpr ⟨mk j,List.mem_map_of_mem m,(X.beq j j).trans (beq_self_eq_true j)⟩
     exact nomatch (show(!(js.map mk).any λy=>V.beq y (mk j))=true from(and_i d).1).symm.trans (congrArg not d1)
    ·have e:(if V.beq (mk j) (mk i)=true then some x else pickV (js.map mk) vs (mk i))=some z:=e
     rw[X.beq]at e
     rw[valueAt_cons]
     by_cases q:j=i
     ·rw[if_pos (beq_iff_eq.mpr q)]at e;rw[if_pos q];exact⟨v,rfl,Option.some.inj e▸p2⟩
     ·rw[if_neg λc=>q (eq_of_beq c)]at e;rw[if_neg q];exact i4 i z e
theorem keys_int:Keys wa Bad h V.int intKeyPairs allIntKeys:=⟨⟨rfl,rfl⟩,λ{k j} r v q=>let⟨t,e⟩:=r.inv;e▸⟨rfl,rfl⟩,λ_ _=>rfl⟩
theorem keys_str:Keys wa Bad h V.str strPairs allStrKeys:=⟨⟨rfl,rfl⟩,λ{k j} r v q=>let⟨t,e⟩:=r.inv;e▸⟨rfl,rfl⟩,λ_ _=>rfl⟩
theorem ints_i:∀{l:List V},allInt l=true->∃js:List Int,l=js.map V.int
 |[],_=>⟨[],rfl⟩
 |x::r,h=>by
  cases x with
  |int i=>obtain⟨js,e⟩:=ints_i (l:=r) h;exact⟨i::js,congrArg (List.cons _) e⟩
  |_=>exact nomatch h
theorem strs_i:∀{l:List V},allStr l=true->∃js:List Str,l=js.map V.str
 |[],_=>⟨[],rfl⟩
 |x::r,h=>by
  cases x with
  |str i=>obtain⟨js,e⟩:=strs_i (l:=r) h;exact⟨i::js,congrArg (List.cons _) e⟩
  |_=>exact nomatch h
end
noncomputable def Cx.more(C:Cx)(D:Addr):Cx:={C with Bad:=λb=>C.Bad b\/b=D}
theorem Cx.Ok.more(O:C.Ok){D:Addr}(h:C.H.get? D=none):(C.more D).Ok:=
 ⟨O.hh,O.hu,O.kind,O.glob,O.blt,λb q=>.inl (O.isBad b q),λb q=>q.elim (O.badH b) λe=>by rw[e];exact h,O.cells,O.base⟩
theorem Cx.St.fresh(O:C.Ok){σ:Option W}{s:Shared}(S:C.St σ s){D:Addr}(h:s.heap.get? D=none):C.H.get? D=none:=by
 cases q:C.H.get? D with
 |none=>rfl
 |some o=>rw[S.keep D o q]at h;assumption
theorem Cx.St.notW{σ:Option W}{s:Shared}(S:C.St σ s){D:Addr}(h:s.heap.get? D=none):¬isW C.wa D:=λq=>by obtain⟨o,ho⟩:=S.w.alive q;rw[h]at ho;exact nomatch ho
theorem SlotOk.more{wa:Option (Addr×Option Addr)}{Bad Bad':Addr->Prop}{env:PySem.Env}{h:Heap}{x:Str}{sl:Slot}(hb:∀b,Bad' b->Bad b\/h.get? b=none)(r:SlotOk wa Bad env h x sl):SlotOk wa Bad' env h x sl:=by
 cases sl with
 |none=>trivial
 |val V=>obtain⟨v,a,b⟩:=r;exact⟨v,a,b.mono hb λ_ _ _ e=>e⟩
 |own xs=>
  refine cps λPP kk=>?_
  obtain⟨a,vs,q1,q2,q3,q4,q5⟩:=r
  refine kk ?_
  exact⟨a,vs,q1,q2,q3,q4.mono hb λ_ _ _ e=>e,q5⟩
theorem Cx.St.pushMore(O:C.Ok){σ:Option W}{s:Shared}(S:C.St σ s)(o:Obj)(hf:o.isFreed=false):(C.more s.heap.objs.size).St σ {s with heap:=s.heap.push o}:=by
 have S':=S.kept O (Kept.push s o)
 have hb:∀b,(C.more s.heap.objs.size).Bad b->C.Bad b\/s.heap.get? b=none:=λb q=>q.imp id λe=>by rw[e];exact get_size _
 have lv:∀b,(s.heap.push o).get? b=none->¬(C.more s.heap.objs.size).Bad b:=by
  intro b e q
  rcases q with q|q
  ·exact S'.live b e q
  ·rw[q,Heap.get?_push_size _ hf]at e;exact nomatch e
 exact⟨S'.keep,lv,
  λk x m sl e=>((S.rd k x m sl e).more hb).keep (λb q=>.inl (O.isBad b q)) λb o _ q=>Heap.get?_push_of_some _ q,S.w.mono hb λb o _ e=>Heap.get?_push_of_some _ e⟩
theorem more_back(O:C.Ok){σ σ1:Option W}{s s1:Shared}{D:Addr}{h':Heap}{tk:Nat}(S:C.St σ s)(hD:s.heap.get? D=none)(k:KeptW C.wa s s1)(w1:WOk C.prog C.w C.wa (C.more D).Bad s1.heap σ1)
  (hsb:∀b o,b≠D->s1.heap.get? b=some o->h'.get? b=some o):KeptW C.wa s {s1 with heap:=h',toks:=tk}/\C.St σ1 {s1 with heap:=h',toks:=tk}:=by
 have k2:KeptW C.wa s {s1 with heap:=h',toks:=tk}:=by
  obtain⟨h1,tk',rfl,kk⟩:=k
  exact⟨h',_,rfl,λb o n e=>hsb b o (by rintro rfl;rw[hD]at e;exact nomatch e) (kk b o n e)⟩
 exact⟨k2,S.keptW O k2 (w1.mono (λ_ q=>.inl (.inl q)) λb o q e=>hsb b o (by
  rintro rfl
  rcases q with q|q
  ·exact q (.inr rfl)
  ·exact S.notW hD q) e)⟩
theorem pick_fin(O:C.Ok){i:PySem.Expr}{g:M V}(hi:EvOk C (eval i C.env) g){σ σ1 σ2:Option W}{x z:V}(e2:g σ1=some (x,σ2)){s:Shared}(S:C.St σ s){ks:List (Option PySem.Expr)}{vs:List PySem.Expr}{p:Pos}{E:Value->Shared->Prop}{Q:Value->Shared->Prop}
  (h:∀v s',KeptW C.wa s s'->Rep C.wa C.Bad s'.heap v z->C.St σ2 s'->Q v s')
  {K:Type}[DecidableEq K]{knd:KeyKind C.prog C.w K}{kvs:List (K×Value)}{h':Heap}{s1:Shared}{tk:Nat}(k1:KeptW C.wa s s1)(w1:WOk C.prog C.w C.wa (C.more s.heap.objs.size).Bad s1.heap σ1)(hsb:Heap.SameBut s.heap.objs.size s1.heap h')
  (hdo:h'.DictOf knd s.heap.objs.size kvs)(hkey:∀(u:Value){h2:Heap},Rep C.wa C.Bad h2 u x->∃k v,knd.is k u=true/\valueAt kvs k=some v/\Rep C.wa (C.more s.heap.objs.size).Bad s1.heap v z):
  wpAny (model C.prog C.w) C.A (eval i C.env) (λu s₂=>wpAny (model C.prog C.w) C.A (subscriptTail (.Dict ks vs p) i (.ref s.heap.objs.size) u) Q E s₂) E {s1 with heap:=h',toks:=tk}:=by
 have hD:=get_size s.heap
 obtain⟨k2,S2⟩:=more_back O (tk:=tk) S hD k1 w1 λb o n e=>hsb.extBut b o n e
 refine hi σ1 x _ e2 _ S2 _ _ λu s2 k3 r3 S3=>?_
 have hdo2:s2.heap.DictOf knd s.heap.objs.size kvs:=hdo.at λo e=>k3.heap _ o (S.notW hD) e
 obtain⟨kk,v,q1,q2,q3⟩:=hkey u r3
 refine tail_ok hdo2.typeIs F.slot_dict_getitem.lookup (wpAny_getItem_of (knd:=knd) q1 hdo2.mapOf q2 ?_)
 exact h v _ ((k2.trans k3).trans (.of (Kept.tok _ _))) (KeptW.rep O.isBad (s:={s1 with heap:=h',toks:=tk}) k3 (q3.mono (λb q=>.inl (.inl q)) λb o n e=>hsb.extBut b o (λq=>n (.inr q)) e)) (S3.kept O (Kept.tok _ _))
theorem ev_pick(O:C.Ok){ks:List (Option PySem.Expr)}{vs:List PySem.Expr}{p pos:Pos}{i:PySem.Expr}{f:M (List V×List V)}{g:M V}(h1:(ks.all (·.isSome))=true)(h2:ks.length=vs.length)(h3:ks≠[])(h4:ks.length<=15)
  (hp:∀{D:Addr},(C.more D).Ok->EvpOk (C.more D) (evalPairs (pairTrees ks vs C.env p)) f)(hi:EvOk C (eval i C.env) g):
  EvOk C (eval (.Subscript (.Dict ks vs p) i pos) C.env) (f.bind λkv=>g.bind λx=>M.lift (pickO kv.1 kv.2 x)):=by
 intro σ V σ' hf s S E Q h
 refine cps λPP kk=>?_
 obtain⟨⟨as,bs⟩,σ1,e1,hf1⟩:=M.bind_some hf
 obtain⟨x,σ2,e2,hf2⟩:=M.bind_some hf1
 obtain⟨hz,rfl⟩:=M.lift_some hf2
 refine kk ?_
 have S0:=S.pushMore O {cls:=.type "dict",data:=.dict #[]} rfl
 have hD:=get_size s.heap
 have k0:KeptW C.wa s {s with heap:=s.heap.push {cls:=.type "dict",data:=.dict #[]}}:=.of (Kept.push s _)
 have hp':=hp (O.more (S.fresh O hD)) σ as bs σ1 e1 _ S0
 clear hf hf1 hf2 e1 hp
 rcases ite_some' (show(if((allInt as&&allInt [x]||allStr as&&allStr [x])&&noDup as)=true then pickV as bs x else none)=some V from hz)with⟨c,hz⟩|⟨_,q⟩
 rotate_left;· exact nomatch q
 obtain⟨c,hd⟩:=and_i c
 rcases Bool.or_eq_true_iff.mp c with c|c
 ·obtain⟨js,rfl⟩:=ints_i (and_i c).1
  refine Subscript_ (wpAny_Dict_walk (knd:=intKind C.prog C.w) h1 h2 h3 h4 (hp' _ _ λps s1 k1 r1 r2 S1=>?_))
  obtain⟨i1,i2,i3,i4⟩:=pick_gen keys_int js ps bs r1 r2 hd
  refine display_done_int i1 (i2.symm▸i3) ((Heap.DictOf.new _).at λo q=>k1.heap _ o (S.notW hD) q) λh' hdo hsb=>pick_fin O hi e2 S h (k0.trans k1) S1.w hsb hdo λu s2 r=>?_
  cases x with
  |int j=>obtain⟨t,rfl⟩:=r.inv;exact let⟨v,q1,q2⟩:=i4 j V hz;⟨j,v,intKind_is _ _ _ _,q1,q2⟩
  |_=>exact nomatch (and_i c).2
 ·obtain⟨js,rfl⟩:=strs_i (and_i c).1
  refine Subscript_ (wpAny_Dict_walk (knd:=strKind C.prog C.w) h1 h2 h3 h4 (hp' _ _ λps s1 k1 r1 r2 S1=>?_))
  obtain⟨i1,i2,i3,i4⟩:=pick_gen keys_str js ps bs r1 r2 hd
  refine display_done_str i1 (i2.symm▸i3) ((Heap.DictOf.new _).at λo q=>k1.heap _ o (S.notW hD) q) λh' hdo hsb=>pick_fin O hi e2 S h (k0.trans k1) S1.w hsb hdo λu s2 r=>?_
  cases x with
  |str j=>obtain⟨t,rfl⟩:=r.inv;exact let⟨v,q1,q2⟩:=i4 j V hz;⟨j,v,strKind_is _ _ _ _,q1,q2⟩
  |_=>exact nomatch (and_i c).2
end
section
open Cx
variable{C:Cx}
theorem w_name(O:C.Ok){i:Nat}{x:Str}{pos:Pos}(hl:locOk C.tb i x=true)(hv:getV C.ρ i=some .w){σ:Option W}{s:Shared}(S:C.St σ s){E:Value->Shared->Prop}{Q:Value->Shared->Prop}
  (h:∀p,C.wa=some p->Q (.ref p.1) s):wpAny (model C.prog C.w) C.A (eval (.Name x pos) C.env) Q E s:=by
 refine cps λPP kk=>?_
 obtain⟨v,r,q⟩:=S.rd i x (locOk_i hl).1 _ (getV_some hv)
 obtain⟨p,e,rfl⟩:=q.inv
 refine kk ?_
 exact name_of O (locOk_i hl).2 r (h p e)
inductive WAt(prog:Program)(w:World)(wa:Option (Addr×Option Addr))(Bad:Addr->Prop)(h:Heap)(W:W)(aw:Addr):Prop
 |mk {vg vr:Value} {ta tl:Tok} (d:h.DictOf (strKind prog w) aw (wPairs W vg ta tl vr)) (g:Rep wa Bad h vg (.lst W.given)) (c:WRows wa Bad h W aw vr)
theorem w_at{prog:Program}{w:World}{wa:Option (Addr×Option Addr)}{Bad:Addr->Prop}{h:Heap}{W:W}(x:WOk prog w wa Bad h (some W)){p:Addr×Option Addr}(e:wa=some p):WAt prog w wa Bad h W p.1:=by
 cases x with
 |on d g c=>
  cases c with
  |fin n q=>cases n.symm.trans e;exact .mk d g (.fin n q)
  |run n q1 q2 q3 q4 q5=>cases n.symm.trans e;exact .mk d g (.run n q1 q2 q3 q4 q5)
theorem w_field{prog:Program}{w:World}{wa:Option (Addr×Option Addr)}{Bad:Addr->Prop}{h:Heap}{W:W}{vg vr:Value}{ta tl:Tok}(g:Rep wa Bad h vg (.lst W.given))(f:Fld):∃v,valueAt (wPairs W vg ta tl vr) (fldName f)=some v/\Rep wa Bad h v (W.get f):=by
 cases f with
 |given=>exact⟨vg,rfl,g⟩
 |at_=>exact⟨_,rfl,.int _ _⟩
 |left=>exact⟨_,rfl,.int _ _⟩
theorem ev_wg(O:C.Ok){i k:Nat}{x:Str}{f:Fld}{p p2 pos:Pos}{y:Str}(hl:locOk C.tb i x=true)(hy:y=fldName f):
  EvOk C (eval (.Subscript (.Name x p) (.Constant (.str y) k p2) pos) C.env) ((M.lift (getV C.ρ i)).bind λx=>M.onW x λw=>some (w.get f,w)):=by
 intro σ V σ' hf s S E Q h
 refine cps λPP kk=>?_
 obtain⟨a,hv,hf1⟩:=M.bl hf
 obtain⟨rfl,w,w',rfl,e,rfl⟩:=M.onW_i hf1
 cases e
 subst hy
 refine kk ?_
 refine Subscript_ (w_name O hl hv S λp hp=>Calls.Constant_str ?_)
 cases w_at (S.kept O (Kept.tok s (s.toks+1))).w hp with
 |mk hd rg _=>
  obtain⟨v,e1,r⟩:=w_field (prog:=C.prog) (w:=C.w) rg f
  refine tail_ok hd.typeIs F.slot_dict_getitem.lookup (wpAny_getItem_of (knd:=strKind C.prog C.w) (strKind_is _ _ _ _) hd.mapOf e1 ?_)
  exact h v _ (.of ((Kept.tok s (s.toks+1)).trans (Kept.tok _ _))) r (S.kept O ((Kept.tok s (s.toks+1)).trans (Kept.tok _ _)))
theorem wLen_i{w w':W}{V:V}(h:wLen w=some (V,w')):w.fin=false/\w.rows.length<=lim/\V=.int w.rows.length/\w'=w:=by
 obtain⟨c,e⟩:=ite_some h
 cases e
 exact⟨c.1,c.2,rfl,rfl⟩
theorem WRows.run_i{wa:Option (Addr×Option Addr)}{Bad:Addr->Prop}{h:Heap}{W:W}{aw:Addr}{vr:Value}(c:WRows wa Bad h W aw vr)(e:W.fin=false):∃ar rs,wa=some (aw,some ar)/\vr=.ref ar/\aw≠ar/\LstAt h ar rs/\Reps wa Bad h rs.toList W.rows/\rs.size<=lim:=by
 cases c with
 |fin _ q=>exact nomatch e.symm.trans q
 |run n q ne l r sz=>exact⟨_,_,n,q.2,ne,l,r,sz⟩
theorem ev_wlen(O:C.Ok){i k:Nat}{x y z:Str}{p p1 p2 p3 pos:Pos}(hl:locOk C.tb i x=true)(hg:globOk C.env.kindOf z=true)(hz:z=Str.ofString "len")(hy:y=Str.ofString "rows"):
  EvOk C (eval (.Call (.Name z p3) [.Subscript (.Name x p) (.Constant (.str y) k p2) p1] [] pos) C.env) ((M.lift (getV C.ρ i)).bind λx=>M.onW x wLen):=by
 intro σ V σ' hf s S E Q h
 refine cps λPP kk=>?_
 obtain⟨a,hv,hf1⟩:=M.bl hf
 obtain⟨rfl,w,w',rfl,e,rfl⟩:=M.onW_i hf1
 obtain⟨c1,c2,rfl,rfl⟩:=wLen_i e
 subst hz;subst hy
 obtain⟨e1,e2⟩:=O.base.bltn .len
 refine kk ?_
 refine wpAny_Call_Name_kw (load_blt O hg e1 e2 S (callWith_plain (λa e=>nomatch e) rfl (Calls.evalArgs_plain (Calls.spliced_cons ?_))))
 refine Subscript_ (w_name O hl hv S λp hp=>Calls.Constant_str ?_)
 cases w_at (S.kept O (Kept.tok s (s.toks+1))).w hp with
 |mk hd rg q=>
  refine cps λPP kk=>?_
  obtain⟨ar,rs,_,rfl,_,q4,q5,_⟩:=q.run_i c1
  refine kk ?_
  refine tail_ok hd.typeIs F.slot_dict_getitem.lookup (wpAny_getItem_of (knd:=strKind C.prog C.w) (strKind_is _ _ _ _) hd.mapOf rfl (Calls.spliced_nil ?_))
  have e3:w'.rows.length=rs.size:=q5.length.symm
  rw[e3]at h c2
  exact PySem.Calls.call_len_list (items:=rs) q4.is (len_fit c2) (h _ _ (.of (Kept.tok s _)) (.int _ _) (S.kept O (Kept.tok s _)))
structure Iter(prog:Program)(w:World)(A:Around)(wa:Option (Addr×Option Addr))(Bad:Addr->Prop)(I:Addr)(xs:List V)(St:Nat->Heap->Prop):Prop where
 alive:∀i h,St i h->∃o,h.get? I=some o
 kindI:∀i h,St i h->∃o n vs,h.get? I=some o/\o.cls=.type n/\o.data=.fields vs/\(n="list_iterator"\/n="tuple_iterator"\/n="range_iterator")
 frame:∀i h h',St i h->(∀o,h.get? I=some o->h'.get? I=some o)->(∀b o,¬Bad b->h.get? b=some o->h'.get? b=some o)->St i h'
 item:∀i s x (Q:Option Value->Shared->Prop) (E:Value->Shared->Prop),xs[i]?=some x->St i s.heap->(∀v h' tk,Rep wa Bad h' v x->St (i+1) h'->(∀b o,b≠I->s.heap.get? b=some o->h'.get? b=some o)->Q (some v) {s with heap:=h',toks:=tk})->
  wpAny (model prog w) A (pyNext (.ref I)) Q E s
 done:∀(s:Shared)(Q:Option Value->Shared->Prop)(E:Value->Shared->Prop),St xs.length s.heap->(∀h' tk,(∀b o,b≠I->s.heap.get? b=some o->h'.get? b=some o)->Q none {s with heap:=h',toks:=tk})->wpAny (model prog w) A (pyNext (.ref I)) Q E s
 self:∀i (s:Shared) (Q:Value->Shared->Prop) (E:Value->Shared->Prop),St i s.heap->Q (.ref I) s->wpAny (model prog w) A (pyIter (.ref I)) Q E s
section
variable{prog:Program}{w:World}{A:Around}{wa:Option (Addr×Option Addr)}{Bad:Addr->Prop}{I:Addr}
theorem Iter.of_seq(hh:A.handled=none)(hI:Bad I){ax:Addr}(hn:¬Bad ax){vs:Array Value}{xs:List V}(hl:vs.size=xs.length){At:Heap->Prop}{It:Nat->Heap->Prop}{nm:String}(hnm:nm="list_iterator"\/nm="tuple_iterator"\/nm="range_iterator")
  (hat:∀{h h'},(∀b o,b=ax->h.get? b=some o->h'.get? b=some o)->At h->At h')(hit:∀{i h h'},(∀o,h.get? I=some o->h'.get? I=some o)->It i h->It i h')(hk:∀{i h},It i h->∃o vs,h.get? I=some o/\o.cls=.type nm/\o.data=.fields vs)
  (item:∀i (s:Shared) (Q:Option Value->Shared->Prop) (E:Value->Shared->Prop),i<vs.size->It i s.heap->At s.heap->(∀v h' tk,vs[i]?=some v->It (i+1) h'->(∀b o,b≠I->s.heap.get? b=some o->h'.get? b=some o)->Q (some v) {s with heap:=h',toks:=tk})->wpAny (model prog w) A (pyNext (.ref I)) Q E s)
  (done:∀(s:Shared)(Q:Option Value->Shared->Prop)(E:Value->Shared->Prop),It vs.size s.heap->At s.heap->(∀h' tk,(∀b o,b≠I->s.heap.get? b=some o->h'.get? b=some o)->Q none {s with heap:=h',toks:=tk})->wpAny (model prog w) A (pyNext (.ref I)) Q E s)
  (self:∀i (s:Shared) (Q:Value->Shared->Prop) (E:Value->Shared->Prop),It i s.heap->At s.heap->Q (.ref I) s->wpAny (model prog w) A (pyIter (.ref I)) Q E s):
  Iter prog w A wa Bad I xs λi h=>It i h/\At h/\Reps wa Bad h vs.toList xs where
 alive:=λi h st=>let⟨o,_,ho,_⟩:=hk st.1;⟨o,ho⟩
 kindI:=λi h st=>let⟨o,vs,ho,h1,h2⟩:=hk st.1;⟨o,nm,vs,ho,h1,h2,hnm⟩
 frame:=λi h h' st k1 k2=>⟨hit k1 st.1,hat (λb o e=>k2 b o (e▸hn)) st.2.1,st.2.2.mono (λ_ q=>.inl q) k2⟩
 item:=λi s x Q E hx st hQ=>item i s Q E (hl▸(List.getElem?_eq_some_iff.mp hx).1) st.1 st.2.1 λv h' tk hP st' hk'=>by
  have r':Reps wa Bad h' vs.toList xs:=st.2.2.mono (λ_ q=>.inl q) λb o n e=>hk' b o (λq=>n (q▸hI)) e
  obtain⟨v',hv',rv⟩:=r'.get hx
  cases (get_arr hv').1.symm.trans hP
  exact hQ _ h' tk rv ⟨st',hat (λb o e=>hk' b o (λq=>hn (e▸q▸hI))) st.2.1,r'⟩ hk'
 done:=λs Q E st hQ=>done s Q E (hl▸st.1) st.2.1 hQ
 self:=λi s Q E st hQ=>self i s Q E st.1 st.2.1 hQ
theorem Iter.of_list(hh:A.handled=none)(hI:Bad I){ax:Addr}(hn:¬Bad ax){vs:Array Value}{xs:List V}(hl:vs.size=xs.length):
  Iter prog w A wa Bad I xs λi h=>h.IsListIter I ax i/\LstAt h ax vs/\Reps wa Bad h vs.toList xs:=
 have W:=Walks.list (prog:=prog) (w:=w) hh I ax (λe=>hn (e▸hI)) vs
 Iter.of_seq hh hI hn hl (.inl rfl) (λk a=>a.elim λn e=>⟨n,k _ _ rfl e⟩) (λk a=>a.at k) (λa=>let⟨o,ho,h1,h2⟩:=a;⟨o,_,ho,h1,h2⟩)
  (λi s Q E hi st a h=>W.item i s Q E hi ⟨st,a.is⟩ λv h' tk hP st' hk=>h v h' tk hP st'.1 λb o hb e=>hk b o (by simpa using hb) e) (λs Q E st a h=>W.done s Q E ⟨st,a.is⟩ λh' tk hk=>h h' tk λb o hb e=>hk b o (by simpa using hb) e) λi s Q E st a h=>W.self i s Q E ⟨st,a.is⟩ h
theorem Iter.of_tup(hh:A.handled=none)(hI:Bad I){ax:Addr}(hn:¬Bad ax){vs:Array Value}{xs:List V}(hl:vs.size=xs.length):
  Iter prog w A wa Bad I xs λi h=>h.IsTupleIter I ax i/\TupAt h ax vs/\Reps wa Bad h vs.toList xs:=
 have W:=Walks.tuple (prog:=prog) (w:=w) hh I ax (λe=>hn (e▸hI)) vs
 Iter.of_seq hh hI hn hl (.inr (.inl rfl)) (λk a=>a.elim λn e=>⟨n,k _ _ rfl e⟩) (λk a=>a.at k) (λa=>let⟨o,ho,h1,h2⟩:=a;⟨o,_,ho,h1,h2⟩)
  (λi s Q E hi st a h=>W.item i s Q E hi ⟨st,a.is⟩ λv h' tk hP st' hk=>h v h' tk hP st'.1 λb o hb e=>hk b o (by simpa using hb) e) (λs Q E st a h=>W.done s Q E ⟨st,a.is⟩ λh' tk hk=>h h' tk λb o hb e=>hk b o (by simpa using hb) e) λi s Q E st a h=>W.self i s Q E ⟨st,a.is⟩ h
theorem Iter.of_range(hh:A.handled=none)(hI:Bad I)(n:Nat):
  Iter prog w A wa Bad I ((List.range n).map λ(i:Nat)=>V.int i) λi h=>IsRangeIter h I (0+(i:Nat)*1) ((n:Int)-(i:Nat)) 1:=by
 have W:=Walks.range (prog:=prog) (w:=w) hh I 0 1 n
 refine⟨λi h st=>⟨_,st⟩,λi h st=>⟨_,_,_,st,rfl,rfl,by exact .inr (.inr rfl)⟩,λi h h' st k1 k2=>k1 _ st,λi s x Q E hx st hQ=>?_,λs Q E st hQ=>?_,λi s Q E st hQ=>W.self i s Q E st hQ⟩
 ·have hi:i<n:=by have:=(List.getElem?_eq_some_iff.mp hx).1;simpa using this
  refine W.item i s Q E hi st λv h' tk hP st' hk=>?_
  obtain⟨t,rfl⟩:=hP
  have:x=.int (0+i*1):=by
   rw[List.getElem?_map,List.getElem?_range hi]at hx
   cases hx;simp
  subst this
  exact hQ _ h' tk (.int _ _) st' λb o hb e=>hk b o (by simpa using hb) e
 ·exact W.done s Q E (by simpa using st) λh' tk hk=>hQ h' tk λb o hb e=>hk b o (by simpa using hb) e
theorem range_size(n:Int):Builtin.Range.rangeSize 0 n 1=((n.toNat:Nat):Int):=by
 unfold Builtin.Range.rangeSize
 simp only[show(1:Int)>0 from by decide,if_true]
 split<;>lia
theorem range_small{n:Int}(h:n<=lim)(h0:-(2^63)<=n):Builtin.Range.small 0 n 1=true:=by
 have hl:(lim:Int)=1048576:=rfl
 unfold Builtin.Range.small
 rw[range_size]
 unfold Builtin.Range.rangeFitsLong
 simp only[Bool.and_eq_true,Bool.or_eq_true,decide_eq_true_eq,show(1:Int)>0 from by decide,if_true]
 lia
end
end
section
open Cx
section
variable{prog:Program}{w:World}{A:Around}{E:Value->Shared->Prop}{s:Shared}{wa:Option (Addr×Option Addr)}{Bad Bad':Addr->Prop}
theorem iter_ok(hh:A.handled=none){v:Value}{X:V}{xs:List V}(r:Rep wa Bad s.heap v X)(hx:itemsV X=some xs)(hI:Bad' s.heap.objs.size)(hb:∀b,Bad' b->Bad b\/s.heap.get? b=none){Q:Value->Shared->Prop}
  (h:∀(o:Obj) St,o.isFreed=false->Iter prog w A wa Bad' s.heap.objs.size xs St->xs.length<=lim->(∀h',(∀b o',(s.heap.push o).get? b=some o'->h'.get? b=some o')->St 0 h')->Q (.ref s.heap.objs.size) {s with heap:=s.heap.push o}):
  wpAny (model prog w) A (pyIter v) Q E s:=by
 have nb:∀{a:Addr}{o:Obj},¬Bad a->s.heap.get? a=some o->¬Bad' a:=λn e=>bad_mono hb n e
 cases X with
 |tup xs=>
  obtain⟨c,rfl⟩:=ite_some hx
  obtain⟨a,vs,rfl,na,ha,q⟩:=r.inv
  refine wpAny_pyIter_tuple ha.is (h _ _ rfl (Iter.of_tup hh hI (ha.elim λ_ e=>nb na e) q.length) c λh' hk=>⟨⟨_,hk _ _ (Heap.get?_push_size _ rfl),rfl,rfl⟩,ha.elim λn ho=>⟨n,hk _ _ (Heap.get?_push_of_some _ ho)⟩,q.mono hb λb o _ e=>hk _ _ (Heap.get?_push_of_some _ e)⟩)
 |lst xs=>
  obtain⟨c,rfl⟩:=ite_some hx
  obtain⟨a,vs,rfl,na,ha,q⟩:=r.inv
  refine wpAny_pyIter_list ha.is (h _ _ rfl (Iter.of_list hh hI (ha.elim λ_ e=>nb na e) q.length) c λh' hk=>⟨⟨_,hk _ _ (Heap.get?_push_size _ rfl),rfl,rfl⟩,ha.elim λn ho=>⟨n,hk _ _ (Heap.get?_push_of_some _ ho)⟩,q.mono hb λb o _ e=>hk _ _ (Heap.get?_push_of_some _ e)⟩)
 |rng n=>
  obtain⟨c0,rfl⟩:=ite_some hx
  obtain⟨a,t,u,v,rfl,na,l,ha⟩:=r.inv
  have hl:(lim:Int)=1048576:=rfl
  refine wpAny_pyIter_range ha (range_small l c0) (h _ _ rfl (Iter.of_range hh hI n.toNat) (by rw[List.length_map,List.length_range];lia) λh' hk=>?_)
  have:=hk _ _ (Heap.get?_push_size s.heap (o:={cls:=.type "range_iterator",data:=.fields #[rawInt 0,rawInt (Builtin.Range.rangeSize 0 n 1),rawInt 1]}) rfl)
  rw[range_size]at this
  trivial
 |_=>exact nomatch hx
end
noncomputable def Cx.also(C:Cx)(D:Addr->Prop):Cx:={C with Bad:=λb=>C.Bad b\/D b}
variable{C:Cx}{D:Addr->Prop}
theorem Cx.Ok.also(O:C.Ok)(h:∀b,D b->C.H.get? b=none):(C.also D).Ok:=
 ⟨O.hh,O.hu,O.kind,O.glob,O.blt,λb q=>.inl (O.isBad b q),λb q=>q.elim (O.badH b) (h b),O.cells,O.base⟩
theorem also_back(O:C.Ok){σ σ1:Option W}{s s':Shared}(S:C.St σ s)(hD:∀b,D b->s.heap.get? b=none)(k:KeptW C.wa s s')(w1:WOk C.prog C.w C.wa (C.also D).Bad s'.heap σ1):C.St σ1 s':=
 S.keptW O k (w1.mono (λ_ q=>.inl (.inl q)) λ_ _ _ e=>e)
theorem look_eq{β:Type}{x n:Str}{b:β}{l:List (Str×β)}(e:(x==n)=true):List.lookup x ((n,b)::l)=some b:=by rw[List.lookup_cons,e]
theorem look_ne{β:Type}{x n:Str}{b:β}{l:List (Str×β)}(e:(x==n)=false):List.lookup x ((n,b)::l)=l.lookup x:=by rw[List.lookup_cons,e]
theorem look_mem{β:Type}{x:Str}{b:β}:∀{l:List (Str×β)},l.lookup x=some b->(x,b)∈l
 |(y,c)::r,h=>by
  cases e:x==y with
  |true=>rw[look_eq e]at h;rw[eq_of_beq e,Option.some.inj h];exact List.mem_cons_self ..
  |false=>rw[look_ne e]at h;exact List.mem_cons_of_mem _ (look_mem h)
theorem relabel_names{env:PySem.Env}(hk:env.scope.kind=.function)(y:Str):∀names:List (Str×NameKind),
  (names.map λ(n,k)=>if(k==NameKind.free&&env.scope.kind==.function&&env.kindOf n==some .cell)then(n,NameKind.cell)else(n,k)).lookup y=
  match names.lookup y with|some .free=>if env.kindOf y==some .cell then some .cell else some .free|k=>k
 |[]=>rfl
 |(n,k)::r=>by
  have ih:=relabel_names hk y r
  have e0:∀(c:Bool)(l:List (Str×NameKind)),List.lookup y ((if c=true then(n,NameKind.cell)else(n,k))::l)=if(y==n)=true then some (if c=true then NameKind.cell else k)else l.lookup y:=λc l=>by
   cases c<;>(cases hx:y==n<;>first|exact look_ne hx|exact look_eq hx)
  show List.lookup y ((if(k==NameKind.free&&env.scope.kind==.function&&env.kindOf n==some .cell)=true then(n,NameKind.cell)else(n,k))::_)=_
  rw[e0]
  cases hx:y==n with
  |true=>
   rw[if_pos rfl,look_eq hx,hk,eq_of_beq hx]
   cases k with
   |free=>cases env.kindOf n==some .cell<;>rfl
   |_=>rfl
  |false=>rw[if_neg Bool.false_ne_true,look_ne hx];exact ih
theorem relabel_kind{env:PySem.Env}(hk:env.scope.kind=.function)(sc:Scope)(y:Str):(relabel sc env).names.lookup y=compKd env.kindOf sc y:=by
 unfold relabel compKd
 exact relabel_names hk y sc.names
noncomputable def clOf(env:PySem.Env):List (Str×NameKind)->List (Str×Addr)->List (Str×Addr)
 |[],cs=>cs
 |(n,k)::r,cs=>if k==.free then clOf env r ((n,(env.cells.lookup n).getD 0)::cs)else clOf env r cs
theorem cell_some{env:PySem.Env}{n:Str}{a:Addr}(h:env.cells.lookup n=some a):cellOf env n=pure a:=by
 delta cellOf;rw[h]
theorem closure_ok{env:PySem.Env}{sc:Scope}(h:∀p∈sc.names,p.2=.free->(env.cells.lookup p.1).isSome=true):closureFor sc env=pure (clOf env sc.names []):=by
 unfold closureFor
 have:∀(names:List (Str×NameKind))(cs:List (Str×Addr)),(∀p∈names,p.2=.free->(env.cells.lookup p.1).isSome=true)->
   (forIn names cs λx r=>do
    let(name,kind):=x
    if kind==.free then do let a ←cellOf env name;pure (ForInStep.yield ((name,a)::r))else pure (ForInStep.yield r):Sem (List (Str×Addr)))=pure (clOf env names cs):=by
  intro names
  induction names with
  |nil=>intro cs _;rfl
  |cons p r ih=>
   intro cs hp
   obtain⟨n,k⟩:=p
   rw[List.forIn_cons]
   cases hk:k==NameKind.free with
   |true=>
    have:=hp (n,k) (List.mem_cons_self ..) (by simpa using hk)
    obtain⟨a,ha⟩:=Option.isSome_iff_exists.mp this
    simp only[hk,if_true,cell_some ha,ha,clOf,pure_bind,Option.getD_some]
    exact ih _ λq hq=>hp q (List.mem_cons_of_mem _ hq)
   |false=>
    simp only[hk,clOf,pure_bind,Bool.false_eq_true,if_false]
    exact ih _ λq hq=>hp q (List.mem_cons_of_mem _ hq)
 exact(congrArg (·>>=pure) (this sc.names [] h)).trans rfl
theorem clOf_lookup{env:PySem.Env}{y:Str}:∀(names:List (Str×NameKind))(cs:List (Str×Addr)),(∀p∈names,p.2=.free->(env.cells.lookup p.1).isSome=true)->
  ((y,NameKind.free)∈names\/cs.lookup y=env.cells.lookup y)->(clOf env names cs).lookup y=env.cells.lookup y
 |[],cs,_,h=>h.elim (λq=>nomatch q) id
 |(n,k)::r,cs,hp,h=>by
  have ih:=λcs=>clOf_lookup (env:=env) (y:=y) r cs λq hq=>hp q (List.mem_cons_of_mem _ hq)
  show(if(k==.free)=true then clOf env r ((n,(env.cells.lookup n).getD 0)::cs)else clOf env r cs).lookup y=_
  cases hk:k==NameKind.free with
  |true=>
   rw[if_pos rfl]
   refine ih _ ?_
   cases hx:y==n with
   |true=>
    refine .inr ((look_eq hx).trans ?_)
    rw[eq_of_beq hx]
    obtain⟨a,ha⟩:=Option.isSome_iff_exists.mp (hp (n,k) (List.mem_cons_self ..) (eq_of_beq hk))
    rw[ha];rfl
   |false=>
    rw[look_ne hx]
    exact h.imp (λq=>(List.mem_cons.mp q).elim (λe=>nomatch hx.symm.trans (beq_iff_eq.mpr (congrArg Prod.fst e))) id) id
  |false=>
   rw[if_neg Bool.false_ne_true]
   exact ih _ (h.imp (λq=>(List.mem_cons.mp q).elim (λe=>nomatch hk.symm.trans (beq_iff_eq.mpr (congrArg Prod.snd e).symm)) id) id)
end
section
open Cx
variable{C:Cx}
noncomputable def Cx.inner(C:Cx)(sc:Scope)(F:Addr)(j:Nat)(x:Str)(v:V):Cx:=
 {C with env:=compEnvC sc (clOf C.env sc.names []) F C.env,tb:=compTb C.env.kindOf sc C.tb j x,ρ:=C.ρ.set j (.val v)}
structure CompScope(C:Cx)(sc:Scope)(x:Str):Prop where
 kind:sc.kind=.function
 look:sc.names.lookup x=some .local
 ne:(x !=dbg)=true
 cell:∀y∈sc.names,y.2≠.cell
 loc:∀y∈sc.names,y.2=.local->sc.names.lookup y.1=some .local
 free:∀y∈sc.names,y.2=.free->C.env.kindOf y.1=some .cell
theorem compScope{sc:Scope}{x:Str}(h:compOk C.env.kindOf sc x=true):CompScope C sc x:=by
 unfold compOk at h
 simp only[Bool.and_eq_true,Bool.or_eq_true,beq_iff_eq,List.all_eq_true]at h
 obtain⟨⟨⟨h1,h2⟩,h3⟩,h4⟩:=h
 refine⟨h1,h2,h3,λy hy e=>?_,λy hy e=>?_,λy hy e=>?_⟩
 ·have:=(h4 y hy).1.1;rw[e]at this;simp at this
 ·have:=(h4 y hy).1.2;rw[e]at this;simpa using this
 ·have:=(h4 y hy).2;rw[e]at this;simpa using this
theorem CompScope.free'{sc:Scope}{x:Str}(K:CompScope C sc x)(O:C.Ok):∀p∈sc.names,p.2=.free->(C.env.cells.lookup p.1).isSome=true:=
 λp hp e=>O.cells _ (K.free p hp e)
theorem inner_kind(O:C.Ok){sc:Scope}{F:Addr}{j:Nat}{x:Str}{v:V}:(C.inner sc F j x v).env.kindOf=compKd C.env.kindOf sc:=by
 funext y
 exact relabel_kind O.kind sc y
theorem Cx.Ok.inner(O:C.Ok){sc:Scope}{F:Addr}{j:Nat}{x:Str}{v:V}(K:CompScope C sc x):(C.inner sc F j x v).Ok:=by
 refine⟨O.hh,O.hu,K.kind,O.glob,O.blt,O.isBad,O.badH,λy hy=>?_,O.base⟩
 rw[inner_kind O]at hy
 unfold compKd at hy
 split at hy
 ·rename_i hl
  show((clOf C.env sc.names []).lookup y).isSome=true
  rw[clOf_lookup _ _ (K.free' O) (.inl (look_mem hl))]
  split at hy
  ·rename_i hc;exact O.cells y (by simpa using hc)
  ·exact nomatch hy
 ·exact absurd rfl (K.cell _ (look_mem hy))
theorem set_i{ρ:Env'}{i k:Nat}{sl sl':Slot}(e:(ρ.set i sl)[k]?=some sl'):(i=k/\sl=sl')\/(i≠k/\ρ[k]?=some sl'):=by
 rw[List.getElem?_set]at e
 by_cases h:i=k
 ·rw[if_pos h]at e
  obtain⟨_,e⟩:=ite_some e
  exact .inl ⟨h,e⟩
 ·rw[if_neg h]at e
  exact .inr ⟨h,e⟩
theorem Cx.St.inner(O:C.Ok){sc:Scope}{F:Addr}{j:Nat}{x:Str}{v:V}(K:CompScope C sc x){σ:Option W}{s:Shared}(S:C.St σ s)(hF:¬isW C.wa F){m:Str->Option Value}(hn:s.heap.Ns F m){u:Value}(hm:m x=some u)
  (r:Rep C.wa C.Bad s.heap u v):(C.inner sc F j x v).St σ s:=by
 have hk:=inner_kind O (sc:=sc) (F:=F) (j:=j) (x:=x) (v:=v)
 refine⟨S.keep,S.live,λi y hy sl hs=>?_,S.w⟩
 have hs':(C.ρ.set j (.val v))[i]?=some sl:=hs
 rcases List.mem_cons.mp (show(i,y)∈(j,x)::_ from hy)with e|e
 ·cases e
  rcases set_i hs' with⟨_,rfl⟩|⟨q,_⟩
  ·refine⟨u,.inl ⟨?_,hF,m,hn,hm⟩,r⟩
   rw[hk];unfold compKd;rw[K.look]
  ·exact absurd rfl q
 ·obtain⟨e1,e2⟩:=List.mem_filter.mp e
  simp only[Bool.and_eq_true,bne_iff_ne,beq_iff_eq]at e2
  obtain⟨⟨⟨e3,e4⟩,e5⟩,e6⟩:=e2
  rw[List.getElem?_set_ne (Ne.symm e3)]at hs'
  have hcell:∀{w:Value},Rd1 C.wa C.env s.heap y w->Rd1 C.wa (C.inner sc F j x v).env s.heap y w:=by
   rintro w (⟨a,_⟩|⟨a,c,b1,b2,b3⟩)
   ·rw[e6]at a;exact nomatch a
   ·refine .inr ⟨?_,c,?_,b2,b3⟩
    ·rw[hk];unfold compKd;rw[e5];simp[e6]
    ·show(clOf C.env sc.names []).lookup y=some c
     rw[clOf_lookup _ _ (K.free' O) (.inl (look_mem e5))];exact b1
  have:=S.rd i y e1 sl hs'
  cases sl with
  |none=>trivial
  |val z=>obtain⟨w,q1,q2⟩:=this;exact⟨w,hcell q1,q2⟩
  |own z=>obtain⟨a,vs,q1,q2⟩:=this;exact⟨a,vs,hcell q1,q2⟩
noncomputable def CondOk(C:Cx)(ifs:List PySem.Expr)(f:M Bool):Prop:=∀σ t σ',f σ=some (t,σ')->∀(s:Shared),C.St σ s->∀(E:Value->Shared->Prop)(Q:Bool->Shared->Prop),
 (∀s',KeptW C.wa s s'->C.St σ' s'->Q t s')->
 wpAny (model C.prog C.w) C.A (forIn ifs true λc r=>if r=true then do let ok ←isTrue c C.env (eval c C.env);pure (ForInStep.yield ok)else pure (ForInStep.yield r)) Q E s
theorem cond_nil:CondOk C [] ((M.pure (V.bool true)).bind λc=>(M.lift c.truth).bind M.pure):=λσ t σ' hf s S E Q h=>by
 cases hf
 exact wpAny_tests_nil (h s (.refl s) S)
theorem cond_one{c:PySem.Expr}{f:M V}(hc:TrOk C (isTrue c C.env (eval c C.env)) f):CondOk C [c] (f.bind λc=>(M.lift c.truth).bind M.pure):=λσ t σ' hf s S E Q h=>by
 refine cps λPP kk=>?_
 obtain⟨a,σ1,h1,hf1⟩:=M.bind_some hf
 obtain⟨b,e,hf2⟩:=M.bl hf1
 cases hf2
 refine kk ?_
 exact wpAny_tests_one (hc σ a _ _ h1 e s S _ _ λs1 k1 S1=>h s1 k1 S1)
variable{D:Addr->Prop}
theorem also_st(O:C.Ok){σ σ1:Option W}{s s':Shared}(S:C.St σ s)(hD:∀b,D b->s.heap.get? b=none)(k:KeptW C.wa s s')(hl:∀b,D b->∃o,s'.heap.get? b=some o)
  (w1:WOk C.prog C.w C.wa (C.also D).Bad s'.heap σ1):(C.also D).St σ1 s':=by
 have S':=also_back O S hD k w1
 have hb:∀b,(C.also D).Bad b->C.Bad b\/s.heap.get? b=none:=λb q=>q.imp id (hD b)
 have lv:∀b,s'.heap.get? b=none->¬(C.also D).Bad b:=by
  intro b e q
  rcases q with q|q
  ·exact S'.live b e q
  ·obtain⟨o,ho⟩:=hl b q;rw[ho]at e;exact nomatch e
 exact⟨S'.keep,lv,λi x m sl e=>((S.rd i x m sl e).more hb).keep (λb q=>.inl (O.isBad b q)) λb o n q=>k.heap b o n q,w1⟩
theorem WOk.but{prog:Program}{w:World}{wa:Option (Addr×Option Addr)}{Bad:Addr->Prop}{h h':Heap}{σ:Option W}(x:WOk prog w wa Bad h σ){b0:Addr}(hb:Bad b0)(hw:¬isW wa b0)(hk:∀b o,b≠b0->h.get? b=some o->h'.get? b=some o):WOk prog w wa Bad h' σ:=
 x.mono (λ_ q=>.inl q) λb o n e=>hk b o (by rintro rfl;exact n.elim (λz=>z hb) hw) e
theorem KeptW.but{wa:Option (Addr×Option Addr)}{s s':Shared}(k:KeptW wa s s'){b0:Addr}(hd:s.heap.get? b0=none){h':Heap}{tk:Nat}(hk:∀b o,b≠b0->s'.heap.get? b=some o->h'.get? b=some o):KeptW wa s {s' with heap:=h',toks:=tk}:=by
 obtain⟨h1,t1,rfl,kk⟩:=k
 exact⟨h',tk,rfl,λb o n e=>hk b o (by rintro rfl;rw[hd]at e;exact nomatch e) (kk b o n e)⟩
end
section
open Cx
variable{C:Cx}
noncomputable def D3(n:Nat)(b:Nat):Prop:=b=n\/b=n+1\/b=n+2
theorem NsAlive{h:Heap}{a:Addr}{m:Str->Option Value}(x:h.Ns a m):∃o,h.get? a=some o:=let⟨o,_,_,e,_⟩:=x;⟨o,e⟩
theorem dead_ge{h:Heap}{b:Addr}(hb:h.objs.size<=b):h.get? b=none:=by
 cases e:h.get? b with
 |none=>rfl
 |some o=>exact absurd (Heap.lt_size e) (Nat.not_lt.mpr hb)
structure Iv(C:Cx)(s1:Shared)(n:Nat)(St:Nat->Heap->Prop)(σ:Option W)(i:Nat)(ys:List V)(a:Array Value)(m:Str->Option Value)(s:Shared):Prop where
 k:KeptW C.wa s1 s
 w:WOk C.prog C.w C.wa (C.also (D3 n)).Bad s.heap σ
 st:St i s.heap
 l:LstAt s.heap (n+1) a
 r:Reps C.wa (C.also (D3 n)).Bad s.heap a.toList ys
 ns:s.heap.Ns (n+2) m
section
variable{s s1 s2:Shared}{n i:Nat}{St:Nat->Heap->Prop}{σ σ2:Option W}{ys:List V}{a:Array Value}{m:Str->Option Value}
theorem Iv.alive{wa:Option (Addr×Option Addr)}{A:Around}{prog:Program}{w:World}{Bad:Addr->Prop}{xs:List V}(hI:Iter prog w A wa Bad n xs St)(I:Iv C s1 n St σ i ys a m s):∀b,D3 n b->∃o,s.heap.get? b=some o:=by
 rintro b (rfl|rfl|rfl)
 ·exact hI.alive _ _ I.st
 ·exact I.l.elim λ_ e=>⟨_,e⟩
 ·exact NsAlive I.ns
theorem Iv.chg{b0:Addr}(h0:D3 n b0)(hD:s1.heap.get? b0=none)(hw:¬isW C.wa b0)(I:Iv C s1 n St σ i ys a m s){h':Heap}{tk:Nat}(hk:∀b o,b≠b0->s.heap.get? b=some o->h'.get? b=some o){i':Nat}{ys':List V}{a':Array Value}{m':Str->Option Value}
  (st:St i' h')(l:LstAt h' (n+1) a')(r:Reps C.wa (C.also (D3 n)).Bad s.heap a'.toList ys')(ns:h'.Ns (n+2) m'):Iv C s1 n St σ i' ys' a' m' {s with heap:=h',toks:=tk}:=
 ⟨I.k.but hD hk,I.w.but (.inr h0) hw hk,st,l,r.mono (λb q=>.inl q) λb o q e=>hk b o (λz=>q (z▸.inr h0)) e,ns⟩
theorem lst_at{h h':Heap}{x:Addr}{a:Array Value}(l:LstAt h x a)(hk:∀o,h.get? x=some o->h'.get? x=some o):LstAt h' x a:=l.elim λc e=>⟨c,hk _ e⟩
theorem Iv.kept{wa:Option (Addr×Option Addr)}{A:Around}{prog:Program}{w:World}{xs:List V}(hI:Iter prog w A wa (C.also (D3 n)).Bad n xs St)(O:(C.also (D3 n)).Ok)(hw:∀b,D3 n b->¬isW C.wa b)(I:Iv C s1 n St σ i ys a m s)(k:KeptW C.wa s s2)(w2:WOk C.prog C.w C.wa (C.also (D3 n)).Bad s2.heap σ2):Iv C s1 n St σ2 i ys a m s2:=
 ⟨I.k.trans k,w2,hI.frame _ _ _ I.st (λo e=>k.heap _ o (hw _ (.inl rfl)) e) λb o q e=>k.heap b o (λz=>q (O.isBad b z)) e,lst_at I.l λo e=>k.heap _ o (hw _ (.inr (.inl rfl))) e,KeptW.reps O.isBad k I.r,I.ns.at' λo e=>k.heap _ o (hw _ (.inr (.inr rfl))) e⟩
end
theorem n01{n:Nat}:n≠n+1:=Nat.ne_of_lt (Nat.lt_succ_self n)
theorem n02{n:Nat}:n≠n+2:=Nat.ne_of_lt (Nat.lt_succ_of_lt (Nat.lt_succ_self n))
theorem n12{n:Nat}:n+1≠n+2:=n01
inductive CK(cond:V->M Bool)(ef:V->M V)(x:V)(r ys:List V)(σa σ':Option W):Bool->Prop
 |f (g:compL cond ef r σa=some (ys,σ')):CK cond ef x r ys σa σ' false
 |t (σb:Option W) (y:V) (zs:List V) (e:ef x σa=some (y,σb)) (g:compL cond ef r σb=some (zs,σ')) (q:ys=y::zs):CK cond ef x r ys σa σ' true
inductive CL(cond:V->M Bool)(ef:V->M V)(x:V)(r ys:List V)(σ σ':Option W):Prop
 |mk (t:Bool) (σa:Option W) (h:cond x σ=some (t,σa)) (k:CK cond ef x r ys σa σ' t):CL cond ef x r ys σ σ'
theorem compL_i{cond:V->M Bool}{ef:V->M V}{x:V}{r ys:List V}{σ σ':Option W}(h:compL cond ef (x::r) σ=some (ys,σ')):CL cond ef x r ys σ σ':=by
 obtain⟨t,σa,h1,h2⟩:=M.bind_some (show((cond x).bind λb=>if b then(ef x).bind λy=>(compL cond ef r).bind λys=>M.pure (y::ys)else compL cond ef r) σ=some (ys,σ')from h)
 refine .mk t σa h1 ?_
 cases t with
 |false=>exact .f h2
 |true=>
  obtain⟨y,σb,h3,h4⟩:=M.bind_some h2
  obtain⟨zs,σc,h5,h6⟩:=M.bind_some h4
  cases h6
  exact .t σb y zs h3 h5 rfl
theorem drop_i{xs:List V}{i:Nat}{x:V}(h:xs[i]?=some x):xs.drop i=x::xs.drop (i+1):=by
 obtain⟨h1,h2⟩:=List.getElem?_eq_some_iff.mp h
 rw[List.drop_eq_getElem_cons h1,h2]
theorem iter_ok_at{prog:Program}{w:World}{A:Around}{wa:Option (Addr×Option Addr)}{Bad Bad':Addr->Prop}{s:Shared}{n:Nat}(hn:s.heap.objs.size=n)(hh:A.handled=none){v:Value}{X:V}{xs:List V}(r:Rep wa Bad s.heap v X)(hx:itemsV X=some xs)(hI:Bad' n)(hb:∀b,Bad' b->Bad b\/s.heap.get? b=none){E Q:Value->Shared->Prop}
  (h:∀(o:Obj) St,o.isFreed=false->Iter prog w A wa Bad' n xs St->xs.length<=lim->(∀h',(∀b o',(s.heap.push o).get? b=some o'->h'.get? b=some o')->St 0 h')->Q (.ref n) {s with heap:=s.heap.push o}):wpAny (model prog w) A (pyIter v) Q E s:=by
 subst hn;exact iter_ok hh r hx hI hb h
theorem newList_at{M:Model}{A:Around}{s:Shared}{n:Nat}(hn:s.heap.objs.size=n){E Q:Value->Shared->Prop}(h:Q (.ref n) {s with heap:=s.heap.push {cls:=.type "list",dict:=none,data:=.seq ([]:List Value).toArray}}):wpAny M A (newList []) Q E s:=by
 subst hn;exact wpAny_newObj_type h
theorem newEnv_at{M:Model}{A:Around}{s:Shared}{n:Nat}{scope:Scope}{globals:Addr}{closure:List (Str×Addr)}{qual:Str}{func:Option Addr}{code:Value}{around:Option Env}{builtins:Addr}{E:Value->Shared->Prop}{Q:Env->Shared->Prop}(hn:s.heap.objs.size=n)
  (hc:∀x∈scope.names,x.2≠.cell)(hk:scope.kind=.function)
  (hQ:∀h',h'.Ns n (λ_=>none)->(∀b o,b≠n->s.heap.get? b=some o->h'.get? b=some o)->Q (newEnv scope n globals closure qual func code around builtins) {s with heap:=h'}):
  wpAny M A (newFunctionEnv scope globals closure [] qual func code around builtins) Q E s:=by
 subst hn
 exact wpAny_newFunctionEnv hc (λy hy=>nomatch hy) (λh' a b=>hQ h' a λx o n e=>b.extBut x o n (Heap.get?_push_of_some _ e)) hk
inductive Lv(C:Cx)(s1:Shared)(n:Nat)(St:Nat->Heap->Prop)(xs:List V)(cond:V->M Bool)(ef:V->M V)(σ':Option W)(zs:List V)(k:Nat)(s':Shared):Prop
 |mk (i:Nat) (σi:Option W) (ysV:List V) (ysA:Array Value) (rest:List V) (m:Str->Option Value) (hk:k=xs.length+1-i) (hi:i<=xs.length) (J:Iv C s1 n St σi i ysV ysA m s') (hsz:ysA.size<=i) (hcl:compL cond ef (xs.drop i) σi=some (rest,σ')) (hap:ysV++rest=zs):Lv C s1 n St xs cond ef σ' zs k s'
theorem idx_c{α:Type}{xs:List α}{i:Nat}(h:i<=xs.length):i=xs.length\/∃x,xs[i]?=some x:=
 (Nat.eq_or_lt_of_le h).imp id λh=>⟨_,List.getElem?_eq_getElem h⟩
theorem comp_core(O:C.Ok){elt iter:PySem.Expr}{x:Str}{px pos:Pos}{ifs:List PySem.Expr}{sc:Scope}{j:Nat}{f0:M V}{cond:V->M Bool}{ef:V->M V}(K:CompScope C sc x)
  (hit:EvOk C (eval iter C.env) f0)
  (hin:∀D F v,((C.also D).inner sc F j x v).Ok->CondOk ((C.also D).inner sc F j x v) ifs (cond v)/\EvOk ((C.also D).inner sc F j x v) (eval elt ((C.also D).inner sc F j x v).env) (ef v))
  {σ:Option W}{V:V}{σ':Option W}(hf:(f0.bind λx=>(M.lift (itemsV x)).bind λxs=>(compL cond ef xs).bind λys=>M.lift (mkLst ys)) σ=some (V,σ')){s:Shared}(S:C.St σ s)
  {E:Value->Shared->Prop}{RR:Value->Addr->Result->Shared->Prop}
  (hRR:∀D F s' m,D≠F->s.heap.get? D=none->s.heap.get? F=none->s'.heap.Ns F m->KeptW C.wa s s'->WOk C.prog C.w C.wa (C.also λb=>b=F\/b=D).Bad s'.heap σ'->(∃vs zs,V=.lst zs/\LstAt s'.heap D vs/\Reps C.wa (C.also λb=>b=F\/b=D).Bad s'.heap vs.toList zs/\vs.size<=lim)->RR (.ref D) F (.ok .next) s'):
  wpAny (model C.prog C.w) C.A (eval iter C.env) (λxv s₁=>wpAny (model C.prog C.w) C.A (pyIter xv) (λit s₂=>wpAny (model C.prog C.w) C.A (newList []) (λacc s₃=>
   wpAny (model C.prog C.w) C.A (newFunctionEnv sc C.env.globals (clOf C.env sc.names []) [] C.env.qual none .none (some C.env)) (λcenv s₄=>
    codeAny (model C.prog C.w) C.A (.compStart (.ListComp elt [⟨.Name x px,iter,ifs,0⟩] sc pos) 0 it acc {cenv with scope:=relabel sc C.env}) (RR acc cenv.locals) s₄) E s₃) E s₂) E s₁) E s:=by
 refine cps λPP kk=>?_
 obtain⟨X,σ1,h1,hf1⟩:=M.bind_some hf
 obtain⟨xs,hx,hf2⟩:=M.bl hf1
 obtain⟨zs,σ3,h3,hf3⟩:=M.bind_some hf2
 obtain⟨hz,rfl⟩:=M.lift_some hf3
 obtain⟨hlim,rfl⟩:=ite_some hz
 clear hf hf1 hf2 hf3 hz hlim
 refine kk ?_
 clear kk
 refine hit σ X _ h1 s S _ _ λxv s1 k1 r1 S1=>?_
 clear hit h1
 obtain⟨n,hn⟩:∃n,s1.heap.objs.size=n:=⟨_,rfl⟩
 have hD:∀b,D3 n b->s1.heap.get? b=none:=λb q=>dead_ge (by rcases q with q|q|q<;>lia)
 have O':(C.also (D3 n)).Ok:=O.also λb q=>Cx.St.fresh O S1 (hD b q)
 have hw:∀b,D3 n b->¬isW C.wa b:=λb q=>Cx.St.notW S1 (hD b q)
 have nI:D3 n n:=.inl rfl
 have nD:D3 n (n+1):=.inr (.inl rfl)
 have nF:D3 n (n+2):=.inr (.inr rfl)
 refine iter_ok_at hn O.hh r1 hx (Bad':=(C.also (D3 n)).Bad) (.inr nI) (λb q=>q.imp id (hD b)) λo St ho hI hlen hst=>?_
 have hs2:(s1.heap.push o).objs.size=n+1:=by rw[Heap.size_push,hn]
 have hs3:((s1.heap.push o).push {cls:=.type "list",dict:=none,data:=.seq ([]:List Value).toArray}).objs.size=n+2:=by rw[Heap.size_push,hs2]
 refine newList_at hs2 (newEnv_at hs3 K.cell K.kind λh₁ hns₁ hsb₁=>?_)
 have old:∀b o',(s1.heap.push o).get? b=some o'->h₁.get? b=some o':=λb o' e=>hsb₁ b o' (Nat.ne_of_lt (Nat.lt_succ_of_lt (hs2▸Heap.lt_size e))) (Heap.get?_push_of_some _ e)
 have old':∀b o',s1.heap.get? b=some o'->h₁.get? b=some o':=λb o' e=>old b o' (Heap.get?_push_of_some _ e)
 have st0:St 0 h₁:=hst h₁ old
 have I0:Iv C s1 n St σ1 0 [] #[] _ {s1 with heap:=h₁}:=
  ⟨.of (Kept.mk' s1 old'),S1.w.mono (λb q=>q.imp id (hD b)) λb o' _ e=>old' b o' e,hst h₁ old,⟨_,hsb₁ _ _ n12 (by rw[←hs2];exact Heap.get?_push_size _ rfl)⟩,.nil,hns₁⟩
 clear hst hs2 hs3 old old' hns₁ hsb₁ r1 hx ho
 have loop:∀s₃:Shared,s₃={s1 with heap:=h₁,toks:=s1.toks}->
   codeAny (model C.prog C.w) C.A (.compLoop (.ListComp elt [⟨.Name x px,iter,ifs,0⟩] sc pos) 0 (.ref n) (.ref (n+1)) (compEnvC sc (clOf C.env sc.names []) (n+2) C.env)) (RR (.ref (n+1)) (n+2)) s₃:=by
  rintro s₃ rfl
  refine codeAny_compLoop_tests
   (Lv C s1 n St xs cond ef σ' zs) ?_ (xs.length+1)
   ⟨0,σ1,[],#[],zs,_,rfl,Nat.zero_le _,I0,Nat.le_refl _,h3,rfl⟩
  clear I0 h3
  intro k s' I
  refine cps λPP kk=>?_
  obtain⟨i,σi,ysV,ysA,rest,m,hkk,hi,J,hsz,hcl,hap⟩:=I
  rcases idx_c hi with rfl|⟨xv',hxi⟩
  ·rw[List.drop_length]at hcl
   cases hcl
   rw[List.append_nil]at hap
   refine kk ?_
   refine hI.done s' _ _ J.st λh' tk hk=>?_
   have k2:KeptW C.wa s1 {s' with heap:=h',toks:=tk}:=J.k.but (hD _ nI) hk
   have hdead:∀b,D3 n b->s.heap.get? b=none:=λb q=>by
    cases e:s.heap.get? b with
    |none=>rfl
    |some o'=>exact nomatch (hD _ q).symm.trans (k1.heap _ o' (hw _ q) e)
   have hbad:∀b,(C.also λb=>b=n+2\/b=n+1).Bad b->(C.also (D3 n)).Bad b:=λb q=>q.imp id λe=>e.elim (λe=>e▸nF) λe=>e▸nD
   exact hRR _ _ _ m n12 (hdead _ nD) (hdead _ nF) (J.ns.at' λo e=>hk _ o n02.symm e) (k1.trans k2) ((J.w.but (.inr nI) (hw _ nI) hk).mono (λb q=>.inl (hbad b q)) λ_ _ _ e=>e)
    ⟨ysA,zs,rfl,lst_at J.l λo e=>hk _ o n01.symm e,hap▸(J.r.mono (λb q=>.inl q) λb o q e=>hk b o (λz=>q (by rw[z];exact .inr nI)) e).mono (λb q=>.inl (hbad b q)) λ_ _ _ e=>e,Nat.le_trans hsz hlen⟩
  ·have hilt:i<xs.length:=(List.getElem?_eq_some_iff.mp hxi).1
   have hmeas:xs.length+1-(i+1)<k:=by lia
   rw[drop_i hxi]at hcl
   obtain⟨t,σa,ha,hcl1⟩:=compL_i hcl
   refine kk ?_
   refine hI.item i s' xv' _ _ hxi J.st λv h' tk rv st' hk=>?_
   have J1:=J.chg (tk:=tk) nI (hD _ nI) (hw _ nI) hk st' (lst_at J.l λo e=>hk _ o n01.symm e) J.r (J.ns.at' λo e=>hk _ o n02.symm e)
   clear J hcl st' hk hi
   refine wpAny_assign_Name (wpAny_storeName_local (lookup_relabel_local K.look) J1.ns (λh₂ hn₂ hs₂=>?_) (by show(sc.kind==.class||(sc.kind==.module&&_))=false;rw[K.kind];rfl))
   have hs₂':∀b o,b≠n+2->h'.get? b=some o->h₂.get? b=some o:=λb o hb e=>hs₂.extBut b o hb e
   have J2:=J1.chg (tk:=tk+1) nF (hD _ nF) (hw _ nF) hs₂' (hI.frame _ _ _ J1.st (λo e=>hs₂' _ o n02 e) λb o q e=>hs₂' b o (λz=>q (z▸.inr nF)) e) (lst_at J1.l λo e=>hs₂' _ o n12 e) J1.r hn₂
   have rvb:Rep C.wa (C.also (D3 n)).Bad h₂ v xv':=rv.mono (λb q=>.inl q) λb o q e=>hs₂' b o (λz=>q (z▸.inr nF)) e
   clear J1 rv hs₂ hs₂'
   have Sb:(C.also (D3 n)).St σi {s' with heap:=h₂,toks:=tk+1}:=also_st O S1 hD J2.k (J2.alive hI) J2.w
   have K':CompScope (C.also (D3 n)) sc x:=⟨K.kind,K.look,K.ne,K.cell,K.loc,K.free⟩
   obtain⟨hc,he⟩:=hin (D3 n) (n+2) xv' (O'.inner (F:=n+2) (j:=j) (v:=xv') K')
   refine hc σi t σa ha _ (Cx.St.inner O' K' Sb (hw _ nF) hn₂ (u:=v) (if_pos rfl) rvb) _ _ λs4 k4 S4=>?_
   have J4:=J2.kept hI O' hw k4 S4.w
   clear J2 Sb rvb hc hin
   clear kk
   refine cps λPP kk=>?_
   obtain hcl1|⟨σb,y,zs',hb,hcc,rfl⟩:=hcl1
   ·exact kk ⟨xs.length+1-(i+1),hmeas,i+1,σa,ysV,ysA,rest,_,rfl,hilt,J4,Nat.le_succ_of_le hsz,hcl1,hap⟩
   ·refine kk ?_
    refine he σa y σb hb s4 S4 _ _ λu s5 k5 r5 S5=>?_
    have J5:=J4.kept hI O' hw k5 S5.w
    refine append_ok J5.l (Nat.le_trans hsz (Nat.le_trans (Nat.le_of_lt hilt) (Nat.le_trans hlen lim_line))) λh₆ hl₆ hs₆=>?_
    have hs₆':∀b o,b≠n+1->s5.heap.get? b=some o->h₆.get? b=some o:=λb o hb e=>hs₆.extBut b o hb e
    refine⟨xs.length+1-(i+1),hmeas,i+1,σb,ysV++[y],ysA.push u,zs',_,rfl,hilt,J5.chg nD (hD _ nD) (hw _ nD) hs₆' (hI.frame _ _ _ J5.st (λo e=>hs₆' _ o n01 e) λb o q e=>hs₆' b o (λz=>q (z▸.inr nD)) e) hl₆ ?_ (J5.ns.at' λo e=>hs₆' _ o n12.symm e),(by rw[Array.size_push];exact Nat.succ_le_succ hsz),hcc,by rw[List.append_assoc];exact hap⟩
    rw[Array.toList_push]
    exact J5.r.append (.cons r5 .nil)
 exact codeAny_compStart_list (loop _ rfl) (hI.self 0 _ _ _ st0 (loop _ rfl))
theorem comp_val{C:Cx}{h:Heap}{D F:Addr}{V:V}(hd:¬C.Bad D)(hne:D≠F)(x:∃vs zs,V=.lst zs/\LstAt h D vs/\Reps C.wa (C.also λb=>b=F\/b=D).Bad h vs.toList zs/\vs.size<=lim):Rep C.wa (C.also (·=F)).Bad h (.ref D) V:=by
 obtain⟨vs,zs,rfl,h1,h2,_⟩:=x
 refine .lst (λq=>q.elim hd hne) h1 (h2.mono (λb q=>.inl (q.imp id .inl)) λ_ _ _ e=>e)
theorem comp_w{C:Cx}{h:Heap}{D F:Addr}{σ:Option W}(x:WOk C.prog C.w C.wa (C.also λb=>b=F\/b=D).Bad h σ):WOk C.prog C.w C.wa (C.also (·=F)).Bad h σ:=
 x.mono (λb q=>.inl (q.imp id .inl)) λ_ _ _ e=>e
end
section
open Cx
variable{C:Cx}
theorem ev_comp(O:C.Ok){elt iter:PySem.Expr}{x:Str}{px pos:Pos}{ifs:List PySem.Expr}{sc:Scope}{j:Nat}{f0:M V}{cond:V->M Bool}{ef:V->M V}(K:CompScope C sc x)(hs:∀v,foldedSetIterable iter C.env v=pure v)
  (hit:EvOk C (eval iter C.env) f0)
  (hin:∀D F v,((C.also D).inner sc F j x v).Ok->CondOk ((C.also D).inner sc F j x v) ifs (cond v)/\EvOk ((C.also D).inner sc F j x v) (eval elt ((C.also D).inner sc F j x v).env) (ef v)):
  EvOk C (eval (.ListComp elt [⟨.Name x px,iter,ifs,0⟩] sc pos) C.env) (f0.bind λx=>(M.lift (itemsV x)).bind λxs=>(compL cond ef xs).bind λys=>M.lift (mkLst ys)):=by
 intro σ V σ' hf s S E Q h
 rw[eval_ListComp]
 refine wpAny_comprehension_free (use:=none) rfl hs (closure_ok (K.free' O)) K.kind K.loc ?_
 refine comp_core (RR:=λacc F=>compPost (model C.prog C.w) C.A E none Q acc F) O K hit hin hf S λD F s' m hne hD hF hns k w' r'=>?_
 have w:=comp_w w'
 have r:=comp_val (S.live D hD) hne r'
 refine⟨m,hns,λh'' hs''=>?_⟩
 have hk:∀b o,b≠F->s'.heap.get? b=some o->h''.get? b=some o:=λb o hb e=>hs''.extBut b o hb e
 have k2:KeptW C.wa s {s' with heap:=h''}:=by
  obtain⟨h1,t1,rfl,kk⟩:=k
  exact⟨h'',t1,rfl,λb o n e=>hk b o (by rintro rfl;rw[hF]at e;exact nomatch e) (kk b o n e)⟩
 refine h _ _ k2 ?_ ?_
 ·exact(r.mono (λb q=>.inl q) λb o n e=>hk b o (λz=>n (.inr z)) e).mono (λ_ q=>.inl (.inl q)) λ_ _ _ e=>e
 ·exact S.keptW O k2 ((w.but (.inr rfl) (S.notW hF) hk).mono (λ_ q=>.inl (.inl q)) λ_ _ _ e=>e)
end
section
open Cx
noncomputable def okX:PySem.Expr->Bool
 |.Constant ..=>true
 |.Name ..=>true
 |.BinOp ..=>true
 |.UnaryOp ..=>true
 |.BoolOp ..=>true
 |.Compare ..=>true
 |.IfExp ..=>true
 |.Tuple ..=>true
 |.List ..=>true
 |.Subscript ..=>true
 |.Call ..=>true
 |.ListComp ..=>true
 |_=>false
theorem okX_all{x:PySem.Expr}(h:okX x=true):(∀env r,starEach (x::r) env=(false,eval x env)::starEach r env)/\(∀op,behindInMarks op x=false)/\∀env v,foldedSetIterable x env v=pure v:=by
 cases x<;>first|exact⟨λ_ _=>rfl,λ_=>rfl,λ_ _=>rfl⟩|exact ffx h
theorem dE_okX(e:E)(x:PySem.Expr):okX (dE e x)=true:=by cases e<;>rfl
theorem dE_star(e:E)(x:PySem.Expr)(env:PySem.Env)(r:List PySem.Expr):starEach (dE e x::r) env=(false,eval (dE e x) env)::starEach r env:=(okX_all (dE_okX e x)).1 env r
theorem dE_mark(e:E)(x:PySem.Expr)(op:CmpOp):behindInMarks op (dE e x)=false:=(okX_all (dE_okX e x)).2.1 op
theorem dE_set(e:E)(x:PySem.Expr)(env:PySem.Env)(v:Value):foldedSetIterable (dE e x) env v=pure v:=(okX_all (dE_okX e x)).2.2 env v
theorem dEs_star(env:PySem.Env):∀(es:Es)(xs:List PySem.Expr),∀y∈dEs es xs,∀r,starEach (y::r) env=(false,eval y env)::starEach r env
 |.nil,_,_,hy=>nomatch hy
 |.cons e q,xs,y,hy=>(List.mem_cons.mp hy).elim (λe'=>e'▸dE_star e _ env) (dEs_star env q _ y)
theorem dEs_ne{es:Es}(xs:List PySem.Expr)(h:es.some=true):dEs es xs≠[]:=by
 cases es
 ·exact ffx h
 ·exact List.cons_ne_nil _ _
theorem dPs_len:∀(ps:Ps)(xs ys:List PySem.Expr),(dPs ps xs ys).length=lenP ps
 |.nil,_,_=>rfl
 |.cons _ _ r,xs,ys=>congrArg (·+1) (dPs_len r xs.tail ys.tail)
theorem dPs_ne{ps:Ps}(xs ys:List PySem.Expr)(h:ps.some=true):dPs ps xs ys≠[]:=by
 cases ps
 ·exact ffx h
 ·exact List.cons_ne_nil _ _
noncomputable def PhiAll(C:Cx)(Φ:Nat->List V->M V):Prop:=∀Bad,(∀b,isW C.wa b->Bad b)->(∀b,Bad b->C.H.get? b=none)->PhiOk {C with Bad:=Bad} Φ
noncomputable def Both(C:Cx)(x:PySem.Expr)(f:M V):Prop:=EvOk C (eval x C.env) f/\TrOk C (isTrue x C.env (eval x C.env)) f
noncomputable def BooOk(C:Cx)(op:BoolOp)(xs:List PySem.Expr)(f:M V):Prop:=∀pos,EvOk C (eval (.BoolOp op xs pos) C.env) f/\∀whole,TrOk C (isTrue (.BoolOp op xs pos) C.env whole) f
noncomputable def opOf(isAnd:Bool):BoolOp:=if isAnd then BoolOp.And else BoolOp.Or
noncomputable def condM(m:M V):M Bool:=m.bind λc=>(M.lift c.truth).bind M.pure
noncomputable def PE(Φ:Nat->List V->M V)(e:E):Prop:=∀(C:Cx),C.Ok->PhiAll C Φ->∀x,okE C.env.kindOf C.tb e x=true->Both C (dE e x) (evE Φ C.ρ e)
noncomputable def PEs(Φ:Nat->List V->M V)(es:Es):Prop:=∀(C:Cx),C.Ok->PhiAll C Φ->∀xs,okEs C.env.kindOf C.tb es xs=true->
 (∀pos,EvsOk C (spliced (backTo pos (starEach (dEs es xs) C.env))) (evs Φ C.ρ es))/\(∀isAnd,BooOk C (opOf isAnd) (dEs es xs) (evB Φ C.ρ isAnd es))/\CondOk C (dEs es xs) (condM (evC Φ C.ρ es))
noncomputable def PPs(Φ:Nat->List V->M V)(ps:Ps):Prop:=∀(C:Cx),C.Ok->PhiAll C Φ->∀xs ys pos,okPs C.env.kindOf C.tb ps xs ys=true->
 EvpOk C (evalPairs (pairTrees ((dPs ps xs ys).map λp=>some p.1) ((dPs ps xs ys).map λp=>p.2) C.env pos)) (evP Φ C.ρ ps)
section
variable{Φ:Nat->List V->M V}
theorem fail_ev{C:Cx}{x:Sem Value}:EvOk C x M.fail:=λ_ _ _ hf=>nomatch hf
theorem fail_tr{C:Cx}{x:Sem Bool}:TrOk C x M.fail:=λ_ _ _ _ hf=>nomatch hf
theorem both{C:Cx}{x:PySem.Expr}{f:M V}(hi:∀w,isTrue x C.env w=(do let v ←w;standAt x.pos;holding [v] (truthy v)))(t:EvOk C (eval x C.env) f):Both C x f:=⟨t,tr_plain t (hi _)⟩
theorem c_nil:PEs Φ .nil:=λC O hΦ xs h=>⟨λpos=>evs_nil O,λisAnd pos=>⟨fail_ev,λ_=>fail_tr⟩,cond_nil⟩
theorem boo_one{C:Cx}{e:PySem.Expr}{f:M V}(h:Both C e f):∀isAnd,BooOk C (opOf isAnd) [e] f
 |true,pos=>⟨ev_boo_one h.1,λ_=>tr_boo_one_and h.2⟩
 |false,pos=>⟨ev_boo_one h.1,λ_=>tr_boo_one_or h.2⟩
theorem boo_two{C:Cx}(O:C.Ok){e e':PySem.Expr}{r:List PySem.Expr}{f g:M V}(h:Both C e f):∀isAnd,BooOk C (opOf isAnd) (e'::r) g->BooOk C (opOf isAnd) (e::e'::r) (f.bind λx=>(M.lift x.truth).bind λt=>if t==isAnd then g else M.pure x)
 |true,hr,pos=>⟨ev_boo_and O h.1 (hr pos).1,λw=>tr_boo_and O h.2 ((hr pos).2 w)⟩
 |false,hr,pos=>⟨ev_boo_or O h.1 (hr pos).1,λw=>tr_boo_or O h.2 ((hr pos).2 w)⟩
theorem c_cons:∀{e:E}{r:Es},PE Φ e->PEs Φ r->PEs Φ (.cons e r)
 |e,.nil,he,hr,C,O,hΦ,xs,h=>
  have h1:=he C O hΦ _ (and_i h).1
  ⟨λpos=>evs_cons O (dE_star e _ _ _) h1.1 ((hr C O hΦ _ (and_i h).2).1 pos),boo_one h1,cond_one h1.2⟩
 |e,.cons e' r,he,hr,C,O,hΦ,xs,h=>
  have h1:=he C O hΦ _ (and_i h).1
  have h2:=hr C O hΦ _ (and_i h).2
  ⟨λpos=>evs_cons O (dE_star e _ _ _) h1.1 (h2.1 pos),λisAnd=>boo_two O h1 isAnd (h2.2.1 isAnd),λ_ _ _ hf=>nomatch hf⟩
theorem c_pnil:PPs Φ .nil:=λC O hΦ xs ys pos h=>evp_nil O
theorem c_pcons{k v:E}{r:Ps}(hk:PE Φ k)(hv:PE Φ v)(hr:PPs Φ r):PPs Φ (.cons k v r):=λC O hΦ xs ys pos h=>
 have h1:=and_i h
 have h2:=and_i h1.2
 evp_cons O (hk C O hΦ _ h1.1).1 (hv C O hΦ _ h2.1).1 (hr C O hΦ _ _ pos h2.2)
theorem c_none:PE Φ .none:=λC O hΦ x h=>both (λ_=>rfl) (ev_none O)
theorem c_bool(b:Bool):PE Φ (.bool b):=λC O hΦ x h=>both (λ_=>rfl) (ev_bool O)
theorem c_int(b:Int):PE Φ (.int b):=λC O hΦ x h=>both (λ_=>rfl) (ev_int O)
theorem c_str(b:Str):PE Φ (.str b):=λC O hΦ x h=>both (λ_=>rfl) (ev_str O)
theorem c_loc(i:Nat):PE Φ (.loc i):=λC O hΦ x h=>both (λ_=>rfl) (ev_name O h)
theorem c_glob(y:Str)(v:V):PE Φ (.glob y v):=λC O hΦ x h=>both (λ_=>rfl) (ev_glob O (and_i h).1 (and_i h).2)
theorem c_bin(op:Operator)(a b:E)(ha:PE Φ a)(hb:PE Φ b):PE Φ (.bin op a b):=λC O hΦ x h=>both (λ_=>rfl) (ev_bin O (ha C O hΦ _ (and_i h).1).1 (hb C O hΦ _ (and_i h).2).1)
theorem c_neg(a:E)(ha:PE Φ a):PE Φ (.neg a):=λC O hΦ x h=>both (λ_=>rfl) (ev_neg O (ha C O hΦ _ h).1)
theorem c_not(a:E)(ha:PE Φ a):PE Φ (.not a):=λC O hΦ x h=>have t:=ha C O hΦ _ h;⟨ev_not O t.1,tr_not O t.2⟩
theorem c_boo(isAnd:Bool)(es:Es)(hs:PEs Φ es):PE Φ (.boo isAnd es):=λC O hΦ x h=>have t:=(hs C O hΦ _ h).2.1 isAnd x.pos;⟨t.1,t.2 _⟩
theorem c_cmp(op:CmpOp)(a b:E)(ha:PE Φ a)(hb:PE Φ b):PE Φ (.cmp op a b):=λC O hΦ x h=>
 have t1:=(ha C O hΦ _ (and_i h).1).1
 have t2:=(hb C O hΦ _ (and_i h).2).1
 ⟨ev_cmp O (dE_mark b _ _) t1 t2,tr_cmp O (dE_mark b _ _) t1 t2⟩
theorem c_ite(t a b:E)(ht:PE Φ t)(ha:PE Φ a)(hb:PE Φ b):PE Φ (.ite t a b):=λC O hΦ x h=>
 have g:=and_i (and_i h).2
 have t0:=ht C O hΦ _ (and_i h).1
 have t1:=ha C O hΦ _ g.1
 have t2:=hb C O hΦ _ g.2
 ⟨ev_ite O t0.2 t1.1 t2.1,tr_ite O t0.2 t1.2 t2.2⟩
theorem c_tup(es:Es)(hs:PEs Φ es):PE Φ (.tup es):=λC O hΦ x h=>both (λ_=>rfl) (ev_tup O ((hs C O hΦ _ h).1 x.pos))
theorem c_lst(es:Es)(hs:PEs Φ es):PE Φ (.lst es):=λC O hΦ x h=>both (λ_=>rfl) (ev_lst O ((hs C O hΦ _ h).1 x.pos))
theorem c_sub(a i:E)(ha:PE Φ a)(hi:PE Φ i):PE Φ (.sub a i):=λC O hΦ x h=>both (λ_=>rfl) (ev_sub O (ha C O hΦ _ (and_i h).1).1 (hi C O hΦ _ (and_i h).2).1)
theorem c_subO(i:Nat)(e:E)(he:PE Φ e):PE Φ (.subO i e):=λC O hΦ x h=>both (λ_=>rfl) (ev_subO O (and_i h).1 (he C O hΦ _ (and_i h).2).1)
theorem c_slcL(a l:E)(ha:PE Φ a)(hl:PE Φ l):PE Φ (.slcL a l):=λC O hΦ x h=>both (λ_=>rfl) (ev_slcL O (ha C O hΦ _ (and_i h).1).1 (hl C O hΦ _ (and_i h).2).1)
theorem c_slcH(a l:E)(ha:PE Φ a)(hl:PE Φ l):PE Φ (.slcH a l):=λC O hΦ x h=>both (λ_=>rfl) (ev_slcH O (ha C O hΦ _ (and_i h).1).1 (hl C O hΦ _ (and_i h).2).1)
theorem c_slcB(a l u:E)(ha:PE Φ a)(hl:PE Φ l)(hu:PE Φ u):PE Φ (.slcB a l u):=λC O hΦ x h=>
 have g:=and_i (and_i h).2
 both (λ_=>rfl) (ev_slcB O (ha C O hΦ _ (and_i h).1).1 (hl C O hΦ _ g.1).1 (hu C O hΦ _ g.2).1)
theorem c_pick(ps:Ps)(k:E)(hp:PPs Φ ps)(hk:PE Φ k):PE Φ (.pick ps k):=λC O hΦ x h=>
 have g:=and_i h
 have g1:=and_i g.1
 have g2:=and_i g.2
 both (λ_=>rfl) (ev_pick (f:=evP Φ C.ρ ps) O (by rw[List.all_map];exact List.all_eq_true.mpr λ_ _=>rfl) (by rw[List.length_map,List.length_map]) (λe=>dPs_ne _ _ g1.2 (List.map_eq_nil_iff.mp e))
  (by rw[List.length_map,dPs_len];exact Nat.le_of_ble_eq_true g1.1) (λ{D} O'=>hp (C.more D) O' (λB a b=>hΦ B a b) _ _ _ g2.1) (hk C O hΦ _ g2.2).1)
theorem c_dget(y:Str)(d:List (Int×V))(k:E)(hk:PE Φ k):PE Φ (.dget y d k):=λC O hΦ x h=>both (λ_=>rfl) (ev_dget O (and_i (and_i h).1).1 (and_i (and_i h).1).2 (hk C O hΦ _ (and_i h).2).1)
theorem c_dgetD(y:Str)(d:List (Int×V))(k e:E)(hk:PE Φ k)(he:PE Φ e):PE Φ (.dgetD y d k e):=λC O hΦ x h=>
 have g:=and_i (and_i h).2
 have g2:=and_i g.2
 both (λ_=>rfl) (ev_dgetD O g.1 (and_i (and_i h).1).1 (and_i (and_i h).1).2 rfl (dE_star k _ _) (dE_star e _ _) (hk C O hΦ _ g2.1).1 (he C O hΦ _ g2.2).1)
theorem c_dnin(y:Str)(d:List (Int×V))(k:E)(hk:PE Φ k):PE Φ (.dnin y d k):=λC O hΦ x h=>
 have g:=and_i (and_i h).1
 have t:=(hk C O hΦ _ (and_i h).2).1
 ⟨ev_dnin O g.1 g.2 t,tr_dnin O g.1 g.2 t⟩
theorem c_call(f:Nat)(es:Es)(hs:PEs Φ es):PE Φ (.call f es):=λC O hΦ x h=>
 have g:=and_i (and_i h).1
 have g2:=and_i g.2
 both (λ_=>rfl) (ev_call O (hΦ C.Bad O.isBad O.badH) g.1 g2.1 (dEs_ne _ g2.2) (dEs_star _ es _) ((hs C O hΦ _ (and_i h).2).1 x.pos))
theorem c_bif(b:Bif)(es:Es)(hs:PEs Φ es):PE Φ (.bif b es):=λC O hΦ x h=>
 have g:=and_i (and_i h).1
 both (λ_=>rfl) (ev_bif O g.1 rfl (dEs_ne _ g.2) (dEs_star _ es _) ((hs C O hΦ _ (and_i h).2).1 x.pos))
theorem c_isTup(a:E)(ha:PE Φ a):PE Φ (.isTup a):=λC O hΦ x h=>
 have g:=and_i (and_i h).1
 both (λ_=>rfl) (ev_isTup O g.1 g.2 rfl rfl (dE_star a _ _) (ha C O hΦ _ (and_i h).2).1)
theorem c_join(a:E)(ha:PE Φ a):PE Φ (.join a):=λC O hΦ x h=>both (λ_=>rfl) (ev_join O (and_i h).1 rfl rfl (dE_star a _ _) (ha C O hΦ _ (and_i h).2).1)
theorem c_wg(i:Nat)(f:Fld):PE Φ (.wg i f):=λC O hΦ x h=>both (λ_=>rfl) (ev_wg O h rfl)
theorem c_wlen(i:Nat):PE Φ (.wlen i):=λC O hΦ x h=>both (λ_=>rfl) (ev_wlen O (and_i h).2 (and_i h).1 rfl rfl)
theorem c_comp(j:Nat)(elt iter:E)(conds:Es)(he:PE Φ elt)(hi:PE Φ iter)(hc:PEs Φ conds):PE Φ (.comp j elt iter conds):=λC O hΦ x h=>
 have g:=and_i h
 have g1:=and_i g.1
 have g2:=and_i g.2
 have hk:∀D F v,((C.also D).inner (xSc x) F j (xNm (xK x 1)) v).env.kindOf=compKd C.env.kindOf (xSc x):=λD F v=>funext λy=>relabel_kind O.kind (xSc x) y
 both (λ_=>rfl) (ev_comp (cond:=λv=>condM (evC Φ (C.ρ.set j (.val v)) conds)) (ef:=λv=>evE Φ (C.ρ.set j (.val v)) elt) O (compScope g1.1) (dE_set iter _ _) (hi C O hΦ _ g1.2).1
  λD F v O'=>⟨(hc _ O' (λB a b=>hΦ B a b) _ ((hk D F v).symm▸g2.2)).2.2,(he _ O' (λB a b=>hΦ B a b) _ ((hk D F v).symm▸g2.1)).1⟩)
theorem snd_e(e:E):PE Φ e:=E.rec (motive_1:=PE Φ) (motive_2:=PEs Φ) (motive_3:=PPs Φ) c_none c_bool c_int c_str c_loc c_glob c_bin c_neg c_not c_boo c_cmp c_ite c_tup c_lst c_sub c_subO c_slcL c_slcH c_slcB c_pick c_dget c_dgetD c_dnin c_call c_bif c_isTup c_join c_wg c_wlen c_comp
 c_nil (λ_ _=>c_cons) c_pnil (λ_ _ _=>c_pcons) e
theorem snd_es(e:Es):PEs Φ e:=Es.rec (motive_1:=PE Φ) (motive_2:=PEs Φ) (motive_3:=PPs Φ) c_none c_bool c_int c_str c_loc c_glob c_bin c_neg c_not c_boo c_cmp c_ite c_tup c_lst c_sub c_subO c_slcL c_slcH c_slcB c_pick c_dget c_dgetD c_dnin c_call c_bif c_isTup c_join c_wg c_wlen c_comp
 c_nil (λ_ _=>c_cons) c_pnil (λ_ _ _=>c_pcons) e
end
noncomputable def IsE(kd:Str->Option NameKind)(tb:Tb)(e:E)(v:PySem.Expr):Prop:=∃x,okE kd tb e x=true/\dE e x=v
theorem isE_set{kd:Str->Option NameKind}{tb:Tb}{e:E}{v:PySem.Expr}(h:IsE kd tb e v):(∀op,behindInMarks op v=false)/\∀env u,foldedSetIterable v env u=pure u:=h.elim λx q=>q.2▸⟨dE_mark e x,dE_set e x⟩
theorem isE_star{kd:Str->Option NameKind}{tb:Tb}{e:E}{v:PySem.Expr}(h:IsE kd tb e v)(env:PySem.Env)(r:List PySem.Expr):starEach (v::r) env=(false,eval v env)::starEach r env:=h.elim λx q=>q.2▸dE_star e x env r
end
section
open Cx
noncomputable def OwnOk(wa:Option (Addr×Option Addr))(Bad Mu:Addr->Prop)(env:PySem.Env)(h:Heap)(x:Str)(a:Addr):Slot->Prop
 |.none=>True
 |.val V=>∃v,Rd1 wa env h x v/\Rep wa Bad h v V
 |.own xs=>Rd1 wa env h x (.ref a)/\Mu a/\∃vs,LstAt h a vs/\Reps wa Bad h vs.toList xs/\vs.size<=lim
structure Fx(C:Cx)(s0:Shared):Prop where
 ok:C.Ok
 keep0:∀b o,C.H.get? b=some o->s0.heap.get? b=some o
 kinds:∀i x,(i,x)∈C.tb->C.env.kindOf x=some .local\/C.env.kindOf x=some .cell
 one:∀i x y,(i,x)∈C.tb->(i,y)∈C.tb->x=y
 inj:∀i k x,(i,x)∈C.tb->(k,x)∈C.tb->i=k
 cinj:∀x y c,C.env.cells.lookup x=some c->C.env.cells.lookup y=some c->x=y
structure Frm(C:Cx)(s0:Shared)(Mu:Addr->Prop)(ad:Nat->Addr)(ρ:Env')(σ:Option W)(s:Shared):Prop where
 dead0:∀b,Mu b->s0.heap.get? b=none
 alive:∀b,Mu b->∃o,s.heap.get? b=some o
 kept:KeptW C.wa s0 s
 w:WOk C.prog C.w C.wa (C.also Mu).Bad s.heap σ
 loc:Mu C.env.locals/\∃m,s.heap.Ns C.env.locals m
 cells:∀x c,C.env.cells.lookup x=some c->Mu c/\∃v,s.heap.IsCell c v
 slot:∀i x,(i,x)∈C.tb->∀sl,ρ[i]?=some sl->OwnOk C.wa (C.also Mu).Bad Mu C.env s.heap x (ad i) sl
 inj:∀i k xs ys,ρ[i]?=some (.own xs)->ρ[k]?=some (.own ys)->i≠k->ad i≠ad k
 live:∀b,s.heap.get? b=none->¬C.Bad b
 sep:∀b,Mu b->¬C.Bad b
 omu:∀i xs,ρ[i]?=some (.own xs)->Mu (ad i)
noncomputable def Cx.fr(C:Cx)(Mu:Addr->Prop)(ρ:Env'):Cx:={C.also Mu with ρ:=ρ}
variable{C:Cx}{s0:Shared}{Mu:Addr->Prop}{ad:Nat->Addr}{ρ:Env'}{σ σ':Option W}{s s':Shared}
theorem Frm.noW(X:Fx C s0)(F:Frm C s0 Mu ad ρ σ s){b:Addr}(h:Mu b):¬isW C.wa b:=λq=>F.sep b h (X.ok.isBad b q)
theorem Frm.ok(X:Fx C s0)(F:Frm C s0 Mu ad ρ σ s):(C.fr Mu ρ).Ok:=by
 have:=X.ok.also (D:=Mu) λb q=>by
  cases e:C.H.get? b with
  |none=>rfl
  |some o=>have:=X.keep0 b o e;rw[F.dead0 b q]at this;exact Eq.symm (by assumption)
 exact⟨this.hh,this.hu,this.kind,this.glob,this.blt,this.isBad,this.badH,this.cells,this.base⟩
theorem Frm.st(X:Fx C s0)(F:Frm C s0 Mu ad ρ σ s):(C.fr Mu ρ).St σ s:=by
 have lv:∀b,s.heap.get? b=none->¬(C.fr Mu ρ).Bad b:=by
  intro b e q
  rcases q with q|q
  ·exact F.live b e q
  ·obtain⟨o,ho⟩:=F.alive b q;rw[ho]at e;exact nomatch e
 refine⟨λb o e=>F.kept.heap b o (notW_H X.ok e) (X.keep0 b o e),lv,λi x m sl e=>?_,F.w⟩
 have:=F.slot i x m sl e
 cases sl with
 |none=>trivial
 |val V=>exact this
 |own xs=>obtain⟨r,q,vs,h1,h2,h3⟩:=this;exact⟨_,vs,r,F.noW X q,h1,h2,h3⟩
theorem OwnOk.keep{wa:Option (Addr×Option Addr)}{Bad:Addr->Prop}(hi:∀b,isW wa b->Bad b)(hm:∀b,Mu b->¬isW wa b){env:PySem.Env}{h h':Heap}{x:Str}{a:Addr}{sl:Slot}(hk:∀b o,¬isW wa b->h.get? b=some o->h'.get? b=some o)(r:OwnOk wa Bad Mu env h x a sl):OwnOk wa Bad Mu env h' x a sl:=by
 cases sl with
 |none=>trivial
 |val V=>obtain⟨v,a,b⟩:=r;exact⟨v,a.keep hk,b.mono (λ_ q=>.inl q) λb o n e=>hk b o (λq=>n (hi b q)) e⟩
 |own xs=>
  refine cps λPP kk=>?_
  obtain⟨q1,q2,vs,⟨n,q3⟩,q4,q5⟩:=r
  refine kk ?_
  exact⟨q1.keep hk,q2,vs,⟨n,hk a _ (hm _ q2) q3⟩,q4.mono (λ_ q=>.inl q) λb o n e=>hk b o (λq=>n (hi b q)) e,q5⟩
theorem Frm.keptW(X:Fx C s0)(F:Frm C s0 Mu ad ρ σ s)(k:KeptW C.wa s s')(hw:WOk C.prog C.w C.wa (C.also Mu).Bad s'.heap σ'):Frm C s0 Mu ad ρ σ' s' where
 dead0:=F.dead0
 alive:=λb q=>by obtain⟨o,ho⟩:=F.alive b q;exact⟨o,k.heap b o (F.noW X q) ho⟩
 kept:=F.kept.trans k
 w:=hw
 loc:=by obtain⟨a,m,b⟩:=F.loc;exact⟨a,m,b.at' λo e=>k.heap _ o (F.noW X a) e⟩
 cells:=λx c e=>by obtain⟨a,v,o,b1,b2⟩:=F.cells x c e;exact⟨a,v,o,k.heap _ o (F.noW X a) b1,b2⟩
 slot:=λi x m sl e=>(F.slot i x m sl e).keep (λb q=>.inl (X.ok.isBad b q)) (λb q=>F.noW X q) λb o n q=>k.heap b o n q
 inj:=F.inj
 live:=λb e q=>by
  by_cases z:isW C.wa b
  ·obtain⟨o,ho⟩:=hw.alive z;rw[ho]at e;exact nomatch e
  ·cases p:s.heap.get? b with
   |none=>exact F.live b p q
   |some o=>rw[k.heap b o z p]at e;exact nomatch e
 sep:=F.sep
 omu:=F.omu
theorem Frm.kept'(X:Fx C s0)(F:Frm C s0 Mu ad ρ σ s)(k:Kept s s'):Frm C s0 Mu ad ρ σ s':=
 F.keptW X (.of k) (F.w.mono (λ_ q=>.inl q) λb o _ e=>k.heap b o e)
theorem Frm.addMuS(X:Fx C s0)(F:Frm C s0 Mu ad ρ σ s)(k:KeptW C.wa s s'){A:Addr->Prop}(hd:∀b,A b->s.heap.get? b=none)(ha:∀b,A b->∃o,s'.heap.get? b=some o)(hw:WOk C.prog C.w C.wa (C.also λb=>Mu b\/A b).Bad s'.heap σ'):Frm C s0 (λb=>Mu b\/A b) ad ρ σ' s':=by
 have hwm:WOk C.prog C.w C.wa (C.also Mu).Bad s'.heap σ':=hw.mono (λb q=>.inl (q.imp id .inl)) λ_ _ _ e=>e
 have F':=F.keptW X k hwm
 have hb:∀b,(C.also λb=>Mu b\/A b).Bad b->(C.also Mu).Bad b\/s.heap.get? b=none:=by
  rintro b (q|q|q)
  ·exact .inl (.inl q)
  ·exact .inl (.inr q)
  ·exact .inr (hd b q)
 refine⟨?_,?_,F'.kept,hw,⟨.inl F'.loc.1,F'.loc.2⟩,λx c e=>⟨.inl (F'.cells x c e).1,(F'.cells x c e).2⟩,?_,F'.inj,F'.live,?_,λi xs e=>.inl (F'.omu i xs e)⟩
 ·rintro b (q|q)
  ·exact F.dead0 b q
  ·have hd:=hd b q
   cases e:s0.heap.get? b with
   |none=>rfl
   |some o=>
    by_cases z:isW C.wa b
    ·obtain⟨o,ho⟩:=F.w.alive z;rw[ho]at hd;exact nomatch hd
    ·rw[F.kept.heap b o z e]at hd;assumption
 ·rintro b (q|q)
  ·exact F'.alive b q
  ·exact ha b q
 ·intro i x m sl e
  have:=F.slot i x m sl e
  have hk:∀b o,¬isW C.wa b->s.heap.get? b=some o->s'.heap.get? b=some o:=λb o n e=>k.heap b o n e
  have hk':∀b o,¬(C.also Mu).Bad b->s.heap.get? b=some o->s'.heap.get? b=some o:=λb o n e=>k.heap b o (λq=>n (.inl (X.ok.isBad b q))) e
  cases sl with
  |none=>trivial
  |val V=>obtain⟨v,q1,q2⟩:=this;exact⟨v,q1.keep hk,q2.mono hb hk'⟩
  |own xs=>
   refine cps λPP kk=>?_
   obtain⟨q1,q2,vs,⟨n,q3⟩,q4,q5⟩:=this
   refine kk ?_
   exact⟨q1.keep hk,.inl q2,vs,⟨n,k.heap _ _ (F.noW X q2) q3⟩,q4.mono hb hk',q5⟩
 ·rintro b (q|q)
  ·exact F.sep b q
  ·exact F.live b (hd b q)
theorem Frm.addMuW(X:Fx C s0)(F:Frm C s0 Mu ad ρ σ s)(k:KeptW C.wa s s'){a:Addr}(hd:s.heap.get? a=none)(ha:∃o,s'.heap.get? a=some o)(hw:WOk C.prog C.w C.wa (C.also λb=>Mu b\/b=a).Bad s'.heap σ'):Frm C s0 (λb=>Mu b\/b=a) ad ρ σ' s':=
 F.addMuS X k (A:=(·=a)) (λb q=>by rw[q];exact hd) (λb q=>by rw[q];exact ha) hw
theorem Frm.addMu(X:Fx C s0)(F:Frm C s0 Mu ad ρ σ s)(k:Kept s s'){a:Addr}(hd:s.heap.get? a=none)(ha:∃o,s'.heap.get? a=some o):Frm C s0 (λb=>Mu b\/b=a) ad ρ σ s':=
 F.addMuW X (.of k) hd ha (F.w.mono (by
  rintro b (q|q|q)
  ·exact .inl (.inl q)
  ·exact .inl (.inr q)
  ·exact .inr (by rw[q];exact hd)) λb o _ e=>k.heap b o e)
theorem Frm.drop(X:Fx C s0)(F:Frm C s0 Mu ad ρ σ s){b0:Addr}(hm:Mu b0)(hL:C.env.locals≠b0)(hc:∀x c,C.env.cells.lookup x=some c->c≠b0)(ho:∀i xs,ρ[i]?=some (.own xs)->ad i≠b0){h':Heap}{tk:Nat}
  (hk:∀b o,b≠b0->s.heap.get? b=some o->h'.get? b=some o):Frm C s0 (λb=>Mu b/\b≠b0) ad ρ σ {s with heap:=h',toks:=tk}:=by
 have hb0:(C.also Mu).Bad b0:=.inr hm
 have hk':∀b o,¬(C.also Mu).Bad b->s.heap.get? b=some o->h'.get? b=some o:=λb o q e=>hk b o (λz=>q (by rw[z];exact hb0)) e
 have hb':∀b,(C.also λb=>Mu b/\b≠b0).Bad b->(C.also Mu).Bad b\/s.heap.get? b=none:=by
  rintro b (q|q)
  ·exact .inl (.inl q)
  ·exact .inl (.inr q.1)
 have hrd:∀{i y w},(i,y)∈C.tb->Rd1 C.wa C.env s.heap y w->Rd1 C.wa C.env h' y w:=by
  rintro i y w hy (⟨r1,r2,m',r3,r4⟩|⟨r1,c,r2,r3,r4⟩)
  ·exact .inl ⟨r1,r2,m',r3.at' λo e=>hk _ o hL e,r4⟩
  ·obtain⟨o,e1,e2⟩:=r4
   exact .inr ⟨r1,c,r2,r3,o,hk _ o (hc _ _ r2) e1,e2⟩
 obtain⟨l1,m,l2⟩:=F.loc
 refine⟨λb q=>F.dead0 b q.1,λb q=>?_,F.kept.but (F.dead0 _ hm) hk,(F.w.but hb0 (F.noW X hm) hk).mono (λb q=>.inl (q.imp id (·.1))) λ_ _ _ e=>e,⟨⟨l1,hL⟩,m,l2.at' λo e=>hk _ o hL e⟩,λy c e=>?_,?_,F.inj,?_,λb q=>F.sep b q.1,λi xs e=>⟨F.omu i xs e,ho i xs e⟩⟩
 ·obtain⟨o,e⟩:=F.alive b q.1;exact⟨o,hk b o q.2 e⟩
 ·obtain⟨c1,w,o,e1,e2⟩:=F.cells y c e
  exact⟨⟨c1,hc _ _ e⟩,w,o,hk _ o (hc _ _ e) e1,e2⟩
 ·intro k y hy sl e
  have:=F.slot k y hy sl e
  cases sl with
  |none=>trivial
  |val V=>obtain⟨v,r1,r2⟩:=this;exact⟨v,hrd hy r1,r2.mono hb' hk'⟩
  |own zs=>
   refine cps λPP kk=>?_
   obtain⟨r1,r2,us,r3,r4,r5⟩:=this
   refine kk ?_
   exact⟨hrd hy r1,⟨r2,ho _ _ e⟩,us,by obtain⟨c,e'⟩:=r3;exact⟨c,hk _ _ (ho _ _ e) e'⟩,r4.mono hb' hk',r5⟩
 ·intro b e q
  by_cases z:b=b0
  ·subst z;exact F.sep _ hm q
  ·cases p:s.heap.get? b with
   |none=>exact F.live b p q
   |some o=>have:=hk b o z p;rw[this]at e;exact nomatch e
theorem lst_ne_ns{h:Heap}{L a:Addr}{m:Str->Option Value}{vs:Array Value}(x:h.Ns L m)(y:LstAt h a vs):L≠a:=by
 rintro rfl
 obtain⟨o,es,ep,ho,hd,_⟩:=x
 obtain⟨n,e⟩:=y
 rw[ho]at e;cases e;trivial
theorem lst_ne_cell{h:Heap}{c a:Addr}{v:Option Value}{vs:Array Value}(x:h.IsCell c v)(y:LstAt h a vs):c≠a:=by
 rintro rfl
 obtain⟨o,ho,hd⟩:=x
 obtain⟨n,e⟩:=y
 rw[ho]at e;cases e;trivial
theorem ns_ne_cell{h:Heap}{L c:Addr}{m:Str->Option Value}{v:Option Value}(x:h.Ns L m)(y:h.IsCell c v):L≠c:=by
 rintro rfl
 obtain⟨o,es,ep,ho,hd,_⟩:=x
 obtain⟨o',ho',hd'⟩:=y
 rw[ho]at ho';cases ho';rw[hd]at hd';trivial
theorem Frm.frz(X:Fx C s0)(F:Frm C s0 Mu ad ρ σ s){i:Nat}{x:Str}(hx:(i,x)∈C.tb){xs:List V}(hi:ρ[i]?=some (.own xs)):Frm C s0 (λb=>Mu b/\b≠ad i) ad (ρ.set i (.val (.lst xs))) σ s:=by
 refine cps λPP kk=>?_
 obtain⟨q1,q2,vs,q3,q4,q5⟩:=F.slot i x hx _ hi
 refine kk ?_
 have hb:∀b,(C.also λb=>Mu b/\b≠ad i).Bad b->(C.also Mu).Bad b:=by
  rintro b (q|q)
  ·exact .inl q
  ·exact .inr q.1
 have hb':∀b,(C.also λb=>Mu b/\b≠ad i).Bad b->(C.also Mu).Bad b\/s.heap.get? b=none:=λb q=>.inl (hb b q)
 obtain⟨l1,m,l2⟩:=F.loc
 refine⟨λb q=>F.dead0 b q.1,λb q=>F.alive b q.1,F.kept,F.w.mono hb' λ_ _ _ e=>e,⟨⟨l1,lst_ne_ns l2 q3⟩,m,l2⟩,λy c e=>?_,?_,?_,F.live,λb q=>F.sep b q.1,?_⟩
 ·obtain⟨c1,v,c2⟩:=F.cells y c e
  exact⟨⟨c1,lst_ne_cell c2 q3⟩,v,c2⟩
 ·intro k y hy sl e
  rcases set_i e with⟨rfl,rfl⟩|⟨ne,e⟩
  ·have:=X.one _ _ _ hx hy;subst this
   refine⟨_,q1,.lst ?_ q3 (q4.mono hb' λ_ _ _ e=>e)⟩
   rintro(q|q)
   ·exact F.sep _ q2 q
   ·exact q.2 rfl
  ·clear hx
   have:=F.slot k y hy sl e
   cases sl with
   |none=>trivial
   |val V=>obtain⟨v,r1,r2⟩:=this;exact⟨v,r1,r2.mono hb' λ_ _ _ e=>e⟩
   |own ys=>
    refine cps λPP kk=>?_
    obtain⟨r1,r2,us,r3,r4,r5⟩:=this
    refine kk ?_
    exact⟨r1,⟨r2,λq=>F.inj k i ys xs e hi (Ne.symm ne) q⟩,us,r3,r4.mono hb' λ_ _ _ e=>e,r5⟩
 ·intro k l xs' ys' h1 h2 hne
  rcases set_i h1 with⟨_,q⟩|⟨_,h1⟩
  ·exact nomatch q
  ·rcases set_i h2 with⟨_,q⟩|⟨_,h2⟩
   ·exact nomatch q
   ·exact F.inj k l _ _ h1 h2 hne
 ·intro k ys e
  rcases set_i e with⟨_,q⟩|⟨ne,e⟩
  ·exact nomatch q
  ·exact⟨F.omu k ys e,λq=>F.inj k i ys xs e hi (Ne.symm ne) q⟩
noncomputable def NewOk(wa:Option (Addr×Option Addr))(Bad Mu:Addr->Prop)(h:Heap)(a:Addr)(v:Value):Slot->Prop
 |.none=>False
 |.val V=>Rep wa Bad h v V
 |.own xs=>v=.ref a/\Mu a/\∃vs,LstAt h a vs/\Reps wa Bad h vs.toList xs/\vs.size<=lim
theorem NewOk.own{wa:Option (Addr×Option Addr)}{Bad:Addr->Prop}{env:PySem.Env}{h:Heap}{x:Str}{a:Addr}{v:Value}{sl:Slot}(n:NewOk wa Bad Mu h a v sl)(r:Rd1 wa env h x v):OwnOk wa Bad Mu env h x a sl:=by
 cases sl with
 |none=>trivial
 |val V=>exact⟨v,r,n⟩
 |own xs=>obtain⟨rfl,q⟩:=n;exact⟨r,q⟩
theorem NewOk.but{wa:Option (Addr×Option Addr)}{Bad:Addr->Prop}{h h':Heap}{a:Addr}{v:Value}{sl:Slot}{b0:Addr}(hb0:Bad b0)(hl:∀a vs,LstAt h a vs->b0≠a)(hk:∀b o,b≠b0->h.get? b=some o->h'.get? b=some o)(n:NewOk wa Bad Mu h a v sl):NewOk wa Bad Mu h' a v sl:=by
 have hk':∀b o,¬Bad b->h.get? b=some o->h'.get? b=some o:=λb o q e=>hk b o (λz=>q (by rw[z];exact hb0)) e
 cases sl with
 |none=>exact n
 |val V=>exact Rep.mono (λ_ q=>.inl q) hk' n
 |own xs=>obtain⟨q0,q1,vs,q2,q3,q4⟩:=n;exact⟨q0,q1,vs,by obtain⟨c,e⟩:=q2;exact⟨c,hk _ _ (λz=>hl _ _ ⟨c,e⟩ z.symm) e⟩,q3.mono (λ_ q=>.inl q) hk',q4⟩
theorem Frm.store(X:Fx C s0)(F:Frm C s0 Mu ad ρ σ s){i:Nat}{x:Str}(hx:(i,x)∈C.tb){a:Addr}{v:Value}{sl:Slot}(hn:NewOk C.wa (C.also Mu).Bad Mu s.heap a v sl)
  (hinj:∀xs,sl=.own xs->∀k ys,ρ[k]?=some (.own ys)->k≠i->ad k≠a){E:Value->Shared->Prop}{Q:Unit->Shared->Prop}
  (h:∀s' ad',Frm C s0 Mu ad' (ρ.set i sl) σ s'->(∃b0,Mu b0/\(b0=C.env.locals\/∃y,C.env.cells.lookup y=some b0)/\∀b o,b≠b0->s.heap.get? b=some o->s'.heap.get? b=some o)->(∀k,ad' k=if k=i then a else ad k)->Q () s'):wpAny (model C.prog C.w) C.A (storeName C.env x v) Q E s:=by
 obtain⟨l1,m,l2⟩:=F.loc
 have main:∀(b0:Addr)(h':Heap)(tk:Nat),Mu b0->(∀a vs,LstAt s.heap a vs->b0≠a)->(∀b o,b≠b0->s.heap.get? b=some o->h'.get? b=some o)->(∃o,h'.get? b0=some o)->(∃m,h'.Ns C.env.locals m)->
   (∀y c,C.env.cells.lookup y=some c->∃v,h'.IsCell c v)->Rd1 C.wa C.env h' x v->(∀k y w,(k,y)∈C.tb->k≠i->Rd1 C.wa C.env s.heap y w->Rd1 C.wa C.env h' y w)->
   Frm C s0 Mu (λk=>if k=i then a else ad k) (ρ.set i sl) σ {s with heap:=h',toks:=tk}:=by
  intro b0 h' tk hm hl hk ha hloc hcell hrd hoth
  have hb0:(C.also Mu).Bad b0:=.inr hm
  refine⟨F.dead0,?_,F.kept.but (F.dead0 b0 hm) hk,F.w.but hb0 (F.noW X hm) hk,⟨l1,hloc⟩,λy c e=>⟨(F.cells y c e).1,hcell y c e⟩,?_,?_,?_,F.sep,?_⟩
  ·intro b q
   by_cases e:b=b0
   ·subst e;exact ha
   ·obtain⟨o,ho⟩:=F.alive b q;exact⟨o,hk b o e ho⟩
  ·intro k y hy sl' e
   rcases set_i e with⟨rfl,rfl⟩|⟨ne,e⟩
   ·have:=X.one _ _ _ hx hy;subst this
    rw[if_pos rfl]
    exact(hn.but hb0 hl hk).own hrd
   ·rw[if_neg (Ne.symm ne)]
    have:=F.slot k y hy sl' e
    have hk':∀b o,¬(C.also Mu).Bad b->s.heap.get? b=some o->h'.get? b=some o:=λb o q e=>hk b o (λz=>q (by rw[z];exact hb0)) e
    cases sl' with
    |none=>trivial
    |val V=>obtain⟨w,r1,r2⟩:=this;exact⟨w,hoth k y w hy (Ne.symm ne) r1,r2.mono (λ_ q=>.inl q) hk'⟩
    |own ys=>
     refine cps λPP kk=>?_
     obtain⟨r1,r2,us,r3,r4,r5⟩:=this
     refine kk ?_
     exact⟨hoth k y _ hy (Ne.symm ne) r1,r2,us,by obtain⟨c,e⟩:=r3;exact⟨c,hk _ _ (λz=>hl _ _ ⟨c,e⟩ z.symm) e⟩,r4.mono (λ_ q=>.inl q) hk',r5⟩
  ·intro k l xs' ys' h1 h2 hne
   rcases set_i h1 with⟨e1,q1⟩|⟨e1,h1⟩<;>rcases set_i h2 with⟨e2,q2⟩|⟨e2,h2⟩
   ·exact absurd (e1.symm.trans e2) hne
   ·rw[if_pos e1.symm,if_neg (Ne.symm e2)]
    exact Ne.symm (hinj _ q1 l _ h2 (Ne.symm e2))
   ·rw[if_neg (Ne.symm e1),if_pos e2.symm]
    exact hinj _ q2 k _ h1 (Ne.symm e1)
   ·rw[if_neg (Ne.symm e1),if_neg (Ne.symm e2)]
    exact F.inj k l _ _ h1 h2 hne
  ·intro b e q
   by_cases z:b=b0
   ·subst z;exact F.sep b hm q
   ·cases p:s.heap.get? b with
    |none=>exact F.live b p q
    |some o=>have:=hk b o z p;rw[this]at e;exact nomatch e
  ·intro k ys e
   rcases set_i e with⟨e1,rfl⟩|⟨e1,e⟩
   ·rw[if_pos e1.symm];exact hn.2.1
   ·rw[if_neg (Ne.symm e1)]
    exact F.omu k ys e
 rcases X.kinds i x hx with hl|hc
 ·refine wpAny_storeName_local hl l2 (λh' hns hsb=>?_) (by rw[X.ok.kind];rfl)
  have hk:∀b o,b≠C.env.locals->s.heap.get? b=some o->h'.get? b=some o:=λb o hb e=>hsb.extBut b o hb e
  refine h _ _ (main C.env.locals h' _ l1 (λa vs z=>lst_ne_ns l2 z) hk (NsAlive hns) ⟨_,hns⟩ (λy c e=>?_) ?_ ?_) ⟨_,l1,.inl rfl,hk⟩ λk=>rfl
  ·obtain⟨c1,w,c2⟩:=F.cells y c e
   exact⟨w,c2.sameBut hsb (Ne.symm (ns_ne_cell l2 c2))⟩
  ·exact .inl ⟨hl,F.noW X l1,_,hns,by exact if_pos rfl⟩
  ·rintro k y w hy hne (⟨r1,r2,m',r3,r4⟩|⟨r1,c,r2,r3,r4⟩)
   ·refine .inl ⟨r1,r2,_,hns,?_⟩
    have:y≠x:=λe=>hne (X.inj k i x (e▸hy) hx)
    rw[if_neg this,l2.agree r3];exact r4
   ·exact .inr ⟨r1,c,r2,r3,r4.sameBut hsb (Ne.symm (ns_ne_cell l2 r4))⟩
 ·obtain⟨c,hc'⟩:=Option.isSome_iff_exists.mp (X.ok.cells x hc)
  obtain⟨c1,v0,c2⟩:=F.cells x c hc'
  refine wpAny_storeName_cell X.ok.kind hc hc' c2 λh' hcell hsb=>?_
  have hk:∀b o,b≠c->s.heap.get? b=some o->h'.get? b=some o:=λb o hb e=>hsb.extBut b o hb e
  refine h _ _ (main c h' s.toks c1 (λa vs z=>lst_ne_cell c2 z) hk (by obtain⟨o,e,_⟩:=hcell;exact⟨o,e⟩) ⟨m,l2.sameBut hsb (ns_ne_cell l2 c2)⟩ (λy d e=>?_) ?_ ?_) ⟨_,c1,.inr ⟨x,hc'⟩,hk⟩ λk=>rfl
  ·by_cases z:d=c
   ·subst z;exact⟨_,hcell⟩
   ·obtain⟨_,w,d2⟩:=F.cells y d e
    exact⟨w,d2.sameBut hsb z⟩
  ·exact .inr ⟨hc,c,hc',F.noW X c1,hcell⟩
  ·rintro k y w hy hne (⟨r1,r2,m',r3,r4⟩|⟨r1,d,r2,r3,r4⟩)
   ·exact .inl ⟨r1,r2,m',r3.sameBut hsb (ns_ne_cell r3 c2),r4⟩
   ·refine .inr ⟨r1,d,r2,r3,r4.sameBut hsb ?_⟩
    rintro rfl
    have:=X.cinj _ _ _ r2 hc'
    exact hne (X.inj k i x (this▸hy) hx)
end
section
open Cx
variable{C:Cx}{s0:Shared}{Mu:Addr->Prop}{ad:Nat->Addr}{ρ:Env'}{σ σ':Option W}{s s':Shared}{Φ:Nat->List V->M V}
theorem Frm.lst(X:Fx C s0)(F:Frm C s0 Mu ad ρ σ s){i:Nat}{x:Str}(hx:(i,x)∈C.tb){xs:List V}(hi:ρ[i]?=some (.own xs)){ys:List V}{vs:Array Value}{h':Heap}{tk:Nat}
  (hl:LstAt h' (ad i) vs)(hr:Reps C.wa (C.also Mu).Bad s.heap vs.toList ys)(hsz:vs.size<=lim)(hs:Heap.SameBut (ad i) s.heap h'):Frm C s0 Mu ad (ρ.set i (.own ys)) σ {s with heap:=h',toks:=tk}:=by
 refine cps λPP kk=>?_
 obtain⟨q1,q2,vs0,q3,q4,q5⟩:=F.slot i x hx _ hi
 have hk:∀b o,b≠ad i->s.heap.get? b=some o->h'.get? b=some o:=λb o hb e=>hs.extBut b o hb e
 have hb0:(C.also Mu).Bad (ad i):=.inr q2
 have hk':∀b o,¬(C.also Mu).Bad b->s.heap.get? b=some o->h'.get? b=some o:=λb o q e=>hk b o (λz=>q (by rw[z];exact hb0)) e
 obtain⟨l1,m,l2⟩:=F.loc
 refine kk ?_
 have hrd:∀{y w},Rd1 C.wa C.env s.heap y w->Rd1 C.wa C.env h' y w:=by
  rintro y w (⟨r1,r2,m',r3,r4⟩|⟨r1,c,r2,r3,r4⟩)
  ·exact .inl ⟨r1,r2,m',r3.sameBut hs (lst_ne_ns r3 q3),r4⟩
  ·exact .inr ⟨r1,c,r2,r3,r4.sameBut hs (lst_ne_cell r4 q3)⟩
 refine⟨F.dead0,?_,F.kept.but (F.dead0 _ q2) hk,F.w.but hb0 (F.noW X q2) hk,⟨l1,m,l2.sameBut hs (lst_ne_ns l2 q3)⟩,λy c e=>?_,?_,?_,?_,F.sep,?_⟩
 ·intro b q
  by_cases e:b=ad i
  ·subst e;obtain⟨n,e⟩:=hl;exact⟨_,e⟩
  ·obtain⟨o,ho⟩:=F.alive b q;exact⟨o,hk b o e ho⟩
 ·obtain⟨c1,w,c2⟩:=F.cells y c e
  exact⟨c1,w,c2.sameBut hs (lst_ne_cell c2 q3)⟩
 ·intro k y hy sl e
  rcases set_i e with⟨rfl,rfl⟩|⟨ne,e⟩
  ·have:=X.one _ _ _ hx hy;subst this
   exact⟨hrd q1,q2,vs,hl,hr.mono (λ_ q=>.inl q) hk',hsz⟩
  ·clear hx
   have:=F.slot k y hy sl e
   cases sl with
   |none=>trivial
   |val V=>obtain⟨v,r1,r2⟩:=this;exact⟨v,hrd r1,r2.mono (λ_ q=>.inl q) hk'⟩
   |own zs=>
    refine cps λPP kk=>?_
    obtain⟨r1,r2,us,r3,r4,r5⟩:=this
    refine kk ?_
    exact⟨hrd r1,r2,us,by obtain⟨c,e'⟩:=r3;exact⟨c,hk _ _ (F.inj k i _ _ e hi (Ne.symm ne)) e'⟩,r4.mono (λ_ q=>.inl q) hk',r5⟩
 ·intro k l xs' ys' h1 h2 hne
  have get:∀(k:Nat)(zs:List V),(ρ.set i (Slot.own ys))[k]?=some (Slot.own zs)->∃zs':List V,ρ[k]?=some (Slot.own zs'):=by
   intro k zs e
   rcases set_i e with⟨rfl,_⟩|⟨_,e⟩
   ·exact⟨_,hi⟩
   ·exact⟨_,e⟩
  obtain⟨_,g1⟩:=get k _ h1
  obtain⟨_,g2⟩:=get l _ h2
  exact F.inj k l _ _ g1 g2 hne
 ·intro b e q
  by_cases z:b=ad i
  ·subst z;exact F.sep _ q2 q
  ·cases p:s.heap.get? b with
   |none=>exact F.live b p q
   |some o=>have:=hk b o z p;rw[this]at e;exact nomatch e
 ·intro k zs e
  rcases set_i e with⟨rfl,_⟩|⟨_,e⟩
  ·exact q2
  ·exact F.omu k zs e
noncomputable def FlOk(wa:Option (Addr×Option Addr))(Bad:Addr->Prop)(h:Heap):Fl->Flow->Prop
 |.next,.next=>True
 |.ret V,.ret v=>Rep wa Bad h v V
 |_,_=>False
noncomputable def Step(wa:Option (Addr×Option Addr))(Mu:Addr->Prop)(s:Shared)(Mu':Addr->Prop)(s':Shared):Prop:=
 (∀b,Mu' b->Mu b\/s.heap.get? b=none)/\∀b o,¬isW wa b->¬Mu b->s.heap.get? b=some o->s'.heap.get? b=some o
theorem Step.of{wa:Option (Addr×Option Addr)}(k:KeptW wa s s'):Step wa Mu s Mu s':=⟨λ_ q=>.inl q,λb o n _ e=>k.heap b o n e⟩
theorem Step.but{wa:Option (Addr×Option Addr)}{b0:Addr}(h:Mu b0)(k:∀b o,b≠b0->s.heap.get? b=some o->s'.heap.get? b=some o):Step wa Mu s Mu s':=
 ⟨λ_ q=>.inl q,λb o _ n e=>k b o (λz=>n (by rw[z];exact h)) e⟩
theorem Step.sub{wa:Option (Addr×Option Addr)}{Mu1 Mu2:Addr->Prop}(x:Step wa Mu s Mu1 s')(h:∀b,Mu2 b->Mu1 b):Step wa Mu s Mu2 s':=⟨λb q=>x.1 b (h b q),x.2⟩
theorem Step.trans{wa:Option (Addr×Option Addr)}{Mu1 Mu2:Addr->Prop}{s1 s2:Shared}(x:Step wa Mu s Mu1 s1)(y:Step wa Mu1 s1 Mu2 s2)(hw:∀b,isW wa b->∃o,s1.heap.get? b=some o):Step wa Mu s Mu2 s2:=by
 refine⟨λb q=>?_,λb o n m e=>y.2 b o n (λq=>?_) (x.2 b o n m e)⟩
 ·rcases y.1 b q with q|q
  ·exact x.1 b q
  ·by_cases m:Mu b
   ·exact .inl m
   ·cases e:s.heap.get? b with
    |none=>exact .inr rfl
    |some o=>
     by_cases n:isW wa b
     ·obtain⟨o,ho⟩:=hw b n;rw[ho]at q;exact nomatch q
     ·rw[x.2 b o n m e]at q;exact nomatch q
 ·rcases x.1 b q with q|q
  ·exact m q
  ·rw[q]at e;exact nomatch e
theorem Frm.aw(F:Frm C s0 Mu ad ρ σ s):∀b,isW C.wa b->∃o,s.heap.get? b=some o:=λ_ q=>F.w.alive q
noncomputable def StOk(C:Cx)(s0:Shared)(x:Sem Flow)(f:Env'->M (Fl×Env')):Prop:=∀ρ σ fl ρ' σ',f ρ σ=some ((fl,ρ'),σ')->∀(s:Shared) Mu ad,Frm C s0 Mu ad ρ σ s->∀(E:Value->Shared->Prop)(Q:Flow->Shared->Prop),
 (∀f s' Mu' ad',Frm C s0 Mu' ad' ρ' σ' s'->Step C.wa Mu s Mu' s'->FlOk C.wa (C.also Mu').Bad s'.heap fl f->Q f s')->wpAny (model C.prog C.w) C.A x Q E s
theorem hq_pure{s:Shared}{Mu:Addr->Prop}{Q:Flow->Shared->Prop}{b fl:Fl}{ρ1 ρ':Env'}{σ1 σ':Option W}(h:(M.pure (b,ρ1)) σ1=some ((fl,ρ'),σ'))(hQ:∀f s' Mu' ad',Frm C s0 Mu' ad' ρ' σ' s'->Step C.wa Mu s Mu' s'->FlOk C.wa (C.also Mu').Bad s'.heap fl f->Q f s'):
  ∀f s' Mu' ad',Frm C s0 Mu' ad' ρ1 σ1 s'->Step C.wa Mu s Mu' s'->FlOk C.wa (C.also Mu').Bad s'.heap b f->Q f s':=by cases h;exact hQ
theorem frm_ev(X:Fx C s0)(hΦ:PhiAll C Φ)(F:Frm C s0 Mu ad ρ σ s){e:Mine.E}{x:PySem.Expr}(h:IsE C.env.kindOf C.tb e x){V:V}(hf:evE Φ ρ e σ=some (V,σ')){E:Value->Shared->Prop}{Q:Value->Shared->Prop}
  (hQ:∀v s',Frm C s0 Mu ad ρ σ' s'->Rep C.wa (C.also Mu).Bad s'.heap v V->KeptW C.wa s s'->Q v s'):wpAny (model C.prog C.w) C.A (eval x C.env) Q E s:=
 h.elim λy q=>q.2▸(snd_e e (C.fr Mu ρ) (F.ok X) (λB a b=>hΦ B a b) y q.1).1 σ V σ' hf s (F.st X) E Q λv s' k r S=>hQ v s' (F.keptW X k S.w) r k
theorem frm_tr(X:Fx C s0)(hΦ:PhiAll C Φ)(F:Frm C s0 Mu ad ρ σ s){e:Mine.E}{x:PySem.Expr}(h:IsE C.env.kindOf C.tb e x){V:V}(hf:evE Φ ρ e σ=some (V,σ')){t:Bool}(ht:V.truth=some t){E:Value->Shared->Prop}{Q:Bool->Shared->Prop}
  (hQ:∀s',Frm C s0 Mu ad ρ σ' s'->KeptW C.wa s s'->Q t s'):wpAny (model C.prog C.w) C.A (isTrue x C.env (eval x C.env)) Q E s:=
 h.elim λy q=>q.2▸(snd_e e (C.fr Mu ρ) (F.ok X) (λB a b=>hΦ B a b) y q.1).2 σ V σ' t hf ht s (F.st X) E Q λs' k S=>hQ s' (F.keptW X k S.w) k
noncomputable def notComp:PySem.Expr->Bool
 |.ListComp ..|.SetComp ..|.DictComp ..=>false
 |_=>true
theorem swaps_no{v:PySem.Expr}{t:Option PySem.Expr}{n:Nat}{env:PySem.Env}(h:notComp v=true):swapsWith v t n env=pure false:=by
 cases v<;>first|rfl|exact Bool.noConfusion (h)
noncomputable def inTb(tb:Tb)(i:Nat)(x:Str):Bool:=tb.contains (i,x)
theorem inTb_mem{tb:Tb}{i:Nat}{x:Str}(h:inTb tb i x=true):(i,x)∈tb:=by unfold inTb at h;simpa using h
theorem s_asg(X:Fx C s0)(hΦ:PhiAll C Φ){i:Nat}{e:E}{x:Str}{px pos:Pos}{v:PySem.Expr}(hi:inTb C.tb i x=true)(h:IsE C.env.kindOf C.tb e v)(hc:notComp v=true):
  StOk C s0 (exec (.Assign [.Name x px] v pos) C.env) (λρ=>(evE Φ ρ e).bind λv=>M.pure (.next,ρ.set i (.val v))):=by
 intro ρ σ fl ρ' σ' hf s Mu ad F E Q hQ
 refine cps λPP kk=>?_
 obtain⟨V,σ1,h1,hf1⟩:=M.bind_some hf
 obtain⟨e',rfl⟩:=M.pure_some hf1
 cases e'
 refine kk ?_
 refine wpAny_Assign_Name (frm_ev X hΦ F h h1 λu s1 F1 r1 k1=>?_) (swaps_no hc)
 exact F1.store X (inTb_mem hi) (a:=ad i) (sl:=.val V) r1 (λxs q=>by exact nomatch q) λs2 ad2 F2 ⟨b0,m0,_,k0⟩ _=>hQ .next s2 Mu ad2 F2 ((Step.of k1).trans (.but m0 k0) F1.aw) trivial
theorem s_ret(X:Fx C s0)(hΦ:PhiAll C Φ){e:E}{pos:Pos}{v:PySem.Expr}(h:IsE C.env.kindOf C.tb e v):
  StOk C s0 (exec (.Return (some v) pos) C.env) (λρ=>(evE Φ ρ e).bind λv=>M.pure (.ret v,ρ)):=by
 intro ρ σ fl ρ' σ' hf s Mu ad F E Q hQ
 obtain⟨V,σ1,h1,hf1⟩:=M.bind_some hf
 obtain⟨e',rfl⟩:=M.pure_some hf1
 cases e'
 exact wpAny_Return_some (frm_ev X hΦ F h h1 λu s1 F1 r1 k1=>hQ (.ret u) s1 Mu ad F1 (.of k1) r1)
theorem s_expr(X:Fx C s0)(hΦ:PhiAll C Φ){e:E}{pos:Pos}{v:PySem.Expr}(h:IsE C.env.kindOf C.tb e v)(hc:notComp v=true):
  StOk C s0 (exec (.Expr v pos) C.env) (λρ=>(evE Φ ρ e).bind λ_=>M.pure (.next,ρ)):=by
 intro ρ σ fl ρ' σ' hf s Mu ad F E Q hQ
 obtain⟨V,σ1,h1,hf1⟩:=M.bind_some hf
 obtain⟨e',rfl⟩:=M.pure_some hf1
 cases e'
 exact wpAny_Expr_any (frm_ev X hΦ F h h1 λu s1 F1 r1 k1=>hQ .next s1 Mu ad F1 (.of k1) trivial) (by unfold interactive;rw[X.ok.kind];rfl) (swaps_no hc)
theorem s_if(X:Fx C s0)(hΦ:PhiAll C Φ){t:E}{pos:Pos}{v:PySem.Expr}{a b:List Stmt}{f g:Env'->M (Fl×Env')}(h:IsE C.env.kindOf C.tb t v)(ha:StOk C s0 (execs a C.env) f)(hb:StOk C s0 (execs b C.env) g):
  StOk C s0 (exec (.If v a b pos) C.env) (λρ=>(evE Φ ρ t).bind λx=>(M.lift x.truth).bind λc=>if c then f ρ else g ρ):=by
 intro ρ σ fl ρ' σ' hf s Mu ad F E Q hQ
 refine cps λPP kk=>?_
 obtain⟨V,σ1,h1,hf1⟩:=M.bind_some hf
 obtain⟨c,σ2,h2,hf2⟩:=M.bind_some hf1
 obtain⟨hc,rfl⟩:=M.lift_some h2
 refine kk ?_
 refine wpAny_If (frm_tr X hΦ F h h1 hc λs1 F1 k1=>?_)
 cases c with
 |true=>exact ha _ _ _ _ _ hf2 s1 Mu ad F1 E Q λf s2 Mu2 ad2 F2 t2=>hQ f s2 Mu2 ad2 F2 ((Step.of k1).trans t2 F1.aw)
 |false=>exact hb _ _ _ _ _ hf2 s1 Mu ad F1 E Q λf s2 Mu2 ad2 F2 t2=>hQ f s2 Mu2 ad2 F2 ((Step.of k1).trans t2 F1.aw)
theorem s_nil:StOk C s0 (execs [] C.env) (λρ=>M.pure (.next,ρ)):=by
 intro ρ σ fl ρ' σ' hf s Mu ad F E Q hQ
 obtain⟨e',rfl⟩:=M.pure_some hf
 cases e'
 exact wpAny_execs_nil (hQ .next s Mu ad F (.of (.refl s)) trivial)
theorem s_cons{st:Stmt}{r:List Stmt}{f g:Env'->M (Fl×Env')}(hs:StOk C s0 (exec st C.env) f)(hr:StOk C s0 (execs r C.env) g):
  StOk C s0 (execs (st::r) C.env) (λρ=>(f ρ).bind λp=>match p.1 with|.next=>g p.2|.ret v=>M.pure (.ret v,p.2)):=by
 intro ρ σ fl ρ' σ' hf s Mu ad F E Q hQ
 refine cps λPP kk=>?_
 obtain⟨⟨fl1,ρ1⟩,σ1,h1,hf1⟩:=M.bind_some hf
 refine kk ?_
 refine wpAny_execs_cons (hs ρ σ fl1 ρ1 σ1 h1 s Mu ad F E _ λf1 s1 Mu1 ad1 F1 t1 o1=>?_)
 cases fl1 with
 |next=>
  cases f1 with
  |next=>exact hr ρ1 σ1 fl ρ' σ' hf1 s1 Mu1 ad1 F1 E Q λf s2 Mu2 ad2 F2 t2=>hQ f s2 Mu2 ad2 F2 (t1.trans t2 F1.aw)
  |_=>exact nomatch o1
 |ret V=>
  refine cps λPP kk=>?_
  obtain⟨e',rfl⟩:=M.pure_some hf1
  cases e'
  refine kk ?_
  cases f1 with
  |ret v=>exact hQ _ s1 Mu1 ad1 F1 t1 o1
  |_=>trivial
theorem s_frz(X:Fx C s0){i:Nat}(hi:(C.tb.any λp=>p.1==i)=true){r:List Stmt}{g:Env'->M (Fl×Env')}(hr:StOk C s0 (execs r C.env) g):
  StOk C s0 (execs r C.env) (λρ=>((M.lift (getO ρ i)).bind λxs=>M.pure (Fl.next,ρ.set i (.val (.lst xs)))).bind λp=>match p.1 with|.next=>g p.2|.ret v=>M.pure (.ret v,p.2)):=by
 intro ρ σ fl ρ' σ' hf s Mu ad F E Q hQ
 refine cps λPP kk=>?_
 obtain⟨⟨fl1,ρ1⟩,σ1,h1,hf1⟩:=M.bind_some hf
 obtain⟨xs,σ2,h2,h3⟩:=M.bind_some h1
 obtain⟨ho,rfl⟩:=M.lift_some h2
 obtain⟨e',rfl⟩:=M.pure_some h3
 cases e'
 obtain⟨⟨k,x⟩,hx,hk⟩:=List.any_eq_true.mp hi
 have:k=i:=by simpa using hk
 subst this
 refine kk ?_
 unfold getO at ho
 split at ho
 ·rename_i v hv;cases ho
  exact hr _ _ fl ρ' σ' hf1 s _ ad (F.frz X hx hv) E Q λf s2 Mu2 ad2 F2 t2=>hQ f s2 Mu2 ad2 F2 (((Step.of (.refl s)).sub λb q=>q.1).trans t2 F.aw)
 ·exact nomatch ho
end
section
open Cx
section
variable{C:Cx}{s0:Shared}{Mu:Addr->Prop}{ad:Nat->Addr}{ρ:Env'}{σ σ':Option W}{s s':Shared}{Φ:Nat->List V->M V}
theorem load_rd(X:Fx C s0){x:Str}{v:Value}(r:Rd1 C.wa C.env s.heap x v){E:Value->Shared->Prop}{Q:Value->Shared->Prop}(h:Q v s):wpAny (model C.prog C.w) C.A (loadName C.env x) Q E s:=by
 rcases r with⟨a,n,m,hn,e⟩|⟨a,c,e,n,hc⟩
 ·exact wpAny_loadName_local X.ok.kind a hn e h
 ·exact wpAny_loadName_cell X.ok.kind a e hc h
theorem name_rd(X:Fx C s0){x:Str}{pos:Pos}{v:Value}(r:Rd1 C.wa C.env s.heap x v)(hx:(x !=dbg)=true){E:Value->Shared->Prop}{Q:Value->Shared->Prop}(h:Q v s):wpAny (model C.prog C.w) C.A (eval (.Name x pos) C.env) Q E s:=
 wpAny_Name (load_rd X r h) (beq_false_of hx)
theorem noInter(X:Fx C s0):interactive C.env=false:=by unfold interactive;rw[X.ok.kind];rfl
theorem frm_asg(X:Fx C s0){i:Nat}{x:Str}(hi:(i,x)∈C.tb)(F:Frm C s0 Mu ad ρ σ s){v:Value}{V:V}(r:Rep C.wa (C.also Mu).Bad s.heap v V){E:Value->Shared->Prop}{Q:Unit->Shared->Prop}
  (hQ:∀s' ad',Frm C s0 Mu ad' (ρ.set i (.val V)) σ s'->Step C.wa Mu s Mu s'->(∀b o,¬(C.also Mu).Bad b->s.heap.get? b=some o->s'.heap.get? b=some o)->Q () s'):wpAny (model C.prog C.w) C.A (storeName C.env x v) Q E s:=
 (F.store X hi (a:=ad i) (sl:=.val V) r (λxs q=>nomatch q) λs2 ad2 F2 ⟨b0,m0,_,k0⟩ _=>hQ s2 ad2 F2 (.but m0 k0) λb o n e=>k0 b o (λz=>n (z▸.inr m0)) e)
theorem frm_own(X:Fx C s0){i:Nat}{x:Str}(hi:(i,x)∈C.tb)(F:Frm C s0 Mu ad ρ σ s)(k:Kept s s'){I:Addr}(hd:s.heap.get? I=none){vs:Array Value}{xs:List V}(hL:LstAt s'.heap I vs)(hr:Reps C.wa (C.also Mu).Bad s.heap vs.toList xs)(hsz:vs.size<=lim){E:Value->Shared->Prop}{Q:Unit->Shared->Prop}
  (hQ:∀s2 Mu2 ad2,Frm C s0 Mu2 ad2 (ρ.set i (.own xs)) σ s2->Step C.wa Mu s Mu2 s2->Q () s2):wpAny (model C.prog C.w) C.A (storeName C.env x (.ref I)) Q E s':=by
 have F1:=F.addMu X k hd (hL.elim λn e=>⟨_,e⟩)
 refine F1.store X hi (a:=I) (sl:=.own xs) ⟨rfl,.inr rfl,vs,hL,hr.mono ?_ λb o _ e=>k.heap b o e,hsz⟩ (λxs q k ys e ne z=>?_) λs2 ad2 F2 ⟨b0,m0,_,k0⟩ _=>
  hQ s2 _ ad2 F2 (Step.trans (Mu1:=λb=>Mu b\/b=I) ⟨λb q=>q.imp id λ(z:b=I)=>z▸hd,λb o _ _ e=>k.heap b o e⟩ (.but m0 k0) F1.aw)
 ·exactλb q=>q.elim (λq=>.inl (.inl q)) λq=>q.elim (λq=>.inl (.inr q)) λq=>.inr (q▸hd)
 ·obtain⟨o,ho⟩:=F.alive _ (F.omu _ _ e)
  rw[z,hd]at ho;exact nomatch ho
theorem Frm.chgW(X:Fx C s0)(F:Frm C s0 Mu ad ρ σ s){b0:Addr}(q:isW C.wa b0){h':Heap}(tk:Nat){σ2:Option W}(hk:∀b o,b≠b0->s.heap.get? b=some o->h'.get? b=some o)
  (hw:(∀b o,¬(C.also Mu).Bad b->s.heap.get? b=some o->h'.get? b=some o)->WOk C.prog C.w C.wa (C.also Mu).Bad h' σ2):Frm C s0 Mu ad ρ σ2 {s with heap:=h',toks:=tk}/\KeptW C.wa s {s with heap:=h',toks:=tk}:=
 have k:KeptW C.wa s {s with heap:=h',toks:=tk}:=⟨h',tk,rfl,λb o n e=>hk b o (λz=>n (z▸q)) e⟩
 ⟨F.keptW X k (hw λb o n e=>hk b o (λz=>n (z▸.inl (X.ok.isBad _ q))) e),k⟩
theorem s_aug(X:Fx C s0)(hΦ:PhiAll C Φ){i:Nat}{e:E}{x:Str}{px pos:Pos}{v:PySem.Expr}(hi:inTb C.tb i x=true)(h:IsE C.env.kindOf C.tb e v):
  StOk C s0 (exec (.AugAssign (.Name x px) .Add v pos) C.env) (λρ=>(M.lift (getV ρ i)).bind λx=>(evE Φ ρ e).bind λy=>(M.lift (augV .Add x y)).bind λz=>M.pure (.next,ρ.set i (.val z))):=by
 intro ρ σ fl ρ' σ' hf s Mu ad F E Q hQ
 refine cps λPP kk=>?_
 obtain⟨a,hv,hf1⟩:=M.bl hf
 obtain⟨b,σ2,h2,hf2⟩:=M.bind_some hf1
 obtain⟨z,hz,hf3⟩:=M.bl hf2
 replace hQ:=hq_pure hf3 hQ
 obtain⟨n,m,rfl,rfl,hz⟩:=on2_i hz
 cases hz
 obtain⟨w,r,q⟩:=F.slot i x (inTb_mem hi) _ (getV_some hv)
 obtain⟨t,rfl⟩:=q.inv
 refine kk ?_
 refine wpAny_AugAssign_Name (load_rd X r (frm_ev X hΦ F h h2 λu s1 F1 r1 k1=>?_))
 obtain⟨t2,rfl⟩:=r1.inv
 refine PyProof.Rows.iadd_int ?_
 have k2:Kept s1 {s1 with toks:=s1.toks+1}:=Kept.tok _ _
 have F2:=F1.kept' X k2
 exact frm_asg X (inTb_mem hi) F2 (.int _ _) λs2 ad2 F3 t _=>hQ .next s2 Mu ad2 F3 ((Step.of (k1.trans (.of k2))).trans t F2.aw) trivial
theorem s_newO(X:Fx C s0){i:Nat}{x:Str}{px lp pos:Pos}(hi:inTb C.tb i x=true):
  StOk C s0 (exec (.Assign [.Name x px] (.List [] lp) pos) C.env) (λρ=>M.pure (.next,ρ.set i (.own []))):=by
 intro ρ σ fl ρ' σ' hf s Mu ad F E Q hQ
 refine cps λPP kk=>?_
 replace hQ:=hq_pure hf hQ
 refine kk ?_
 exact wpAny_Assign_Name (List_ (Calls.spliced_nil (wpAny_newObj_type (frm_own X (inTb_mem hi) F (Kept.push s _) (get_size s.heap) (vs:=#[]) ⟨_,Heap.get?_push_size _ rfl⟩ .nil (Nat.zero_le _) λs2 Mu2 ad2 F2 t=>hQ .next s2 Mu2 ad2 F2 t trivial)))) rfl
theorem tupO_i{v:V}{xs:List V}(h:tupO v=some xs):v=.tup xs/\xs.length<=lim:=by
 cases v with
 |tup ys=>obtain⟨l,rfl⟩:=ite_some h;exact⟨rfl,l⟩
 |_=>exact nomatch h
theorem s_lstO(X:Fx C s0)(hΦ:PhiAll C Φ){i:Nat}{e:E}{x y:Str}{px p cp pos:Pos}{v:PySem.Expr}(hi:inTb C.tb i x=true)(hy:y=Str.ofString "list")(hg:globOk C.env.kindOf y=true)(h:IsE C.env.kindOf C.tb e v):
  StOk C s0 (exec (.Assign [.Name x px] (.Call (.Name y p) [v] [] cp) pos) C.env) (λρ=>(evE Φ ρ e).bind λv=>(M.lift (tupO v)).bind λxs=>M.pure (.next,ρ.set i (.own xs))):=by
 intro ρ σ fl ρ' σ' hf s Mu ad F E Q hQ
 refine cps λPP kk=>?_
 obtain⟨V,σ1,h1,hf1⟩:=M.bind_some hf
 obtain⟨xs,hx,hf2⟩:=M.bl hf1
 replace hQ:=hq_pure hf2 hQ
 obtain⟨rfl,hl⟩:=tupO_i hx
 subst hy
 refine kk ?_
 refine wpAny_Assign_Name (wpAny_Call_Name_kw (load_blt (F.ok X) hg X.ok.base.list.1 X.ok.base.list.2 (F.st X) ?_)) rfl
 have hst:=isE_star h C.env
 refine callWith_plain (λa e=>nomatch e) (by rw[hst];rfl) ?_
 rw[hst]
 refine Calls.evalArgs_plain (Calls.spliced_cons (frm_ev X hΦ F h h1 λu s1 F1 r1 k1=>Calls.spliced_nil ?_))
 refine cps λPP kk=>?_
 obtain⟨a,vs,rfl,_,ha,q⟩:=r1.inv
 refine kk ?_
 have e1:vs.size<=lim:=by rw[show vs.size=xs.length from q.length];exact hl
 exact listOf_ok ha (Nat.le_trans e1 lim_line) λh' hk hL=>frm_own X (inTb_mem hi) F1 (Kept.mk' s1 hk) (get_size s1.heap) hL q e1 λs2 Mu2 ad2 F3 t=>hQ .next s2 Mu2 ad2 F3 ((Step.of k1).trans t F1.aw) trivial
theorem setV_iv{xs ys:List V}{n v:V}(h:setV xs n v=some ys):∃k,n=.int k/\setL xs k v=some ys:=by
 cases n with
 |int k=>exact⟨k,rfl,h⟩
 |_=>exact nomatch h
theorem s_setO(X:Fx C s0)(hΦ:PhiAll C Φ){i:Nat}{k e:E}{x:Str}{p sp pos:Pos}{kx v:PySem.Expr}(hi:inTb C.tb i x=true)(hx:(x !=dbg)=true)(hk:IsE C.env.kindOf C.tb k kx)(h:IsE C.env.kindOf C.tb e v)(hc:notComp v=true):
  StOk C s0 (exec (.Assign [.Subscript (.Name x p) kx sp] v pos) C.env) (λρ=>(evE Φ ρ e).bind λv=>(M.lift (getO ρ i)).bind λxs=>(evE Φ ρ k).bind λkv=>(M.lift (setV xs kv v)).bind λys=>M.pure (.next,ρ.set i (.own ys))):=by
 intro ρ σ fl ρ' σ' hf s Mu ad F E Q hQ
 refine cps λPP kk=>?_
 obtain⟨V,σ1,h1,hf1⟩:=M.bind_some hf
 obtain⟨xs,ho,hf2⟩:=M.bl hf1
 obtain⟨K,σ3,h3,hf3⟩:=M.bind_some hf2
 obtain⟨ys,hz,hf4⟩:=M.bl hf3
 replace hQ:=hq_pure hf4 hQ
 obtain⟨n,rfl,hz⟩:=setV_iv hz
 refine kk ?_
 refine wpAny_Assign_Subscript (frm_ev X hΦ F h h1 λu s1 F1 r1 k1=>name_rd X (F1.slot i x (inTb_mem hi) _ (getO_some ho)).1 hx (frm_ev X hΦ F1 hk h3 λkv s2 F2 r2 k2=>?_)) (swaps_no hc)
 obtain⟨_,mu,vs,q1,q2,q3⟩:=F2.slot i x (inTb_mem hi) _ (getO_some ho)
 obtain⟨t,rfl⟩:=r2.inv
 exact set_ok q1 q2 (k2.rep (F.ok X).isBad r1) hz q3 λh' ws hl hw hr hs=>
  hQ .next _ Mu ad (F2.lst X (inTb_mem hi) (getO_some ho) (tk:=s2.toks) hl hr (hw▸q3) hs) ((Step.of (k1.trans k2)).trans (.but mu λb o hb e=>hs.extBut b o hb e) F2.aw) trivial
theorem plain_obj{h:Heap}{a:Addr}{vs:Array Value}(l:LstAt h a vs):∀b,Value.ref a=.ref b->∃o,h.get? b=some o/\o.dict=none:=λb e=>Value.ref.inj e▸l.elim λn q=>⟨_,q,rfl⟩
theorem s_appO(X:Fx C s0)(hΦ:PhiAll C Φ){i:Nat}{e:E}{x at_:Str}{p ap cp pos:Pos}{v:PySem.Expr}(hi:inTb C.tb i x=true)(hx:(x !=dbg)=true)(ha:at_=Str.ofString "append")(hline:(ap.endLine==cp.line)=true)(h:IsE C.env.kindOf C.tb e v):
  StOk C s0 (exec (.Expr (.Call (.Attribute (.Name x p) at_ ap) [v] [] cp) pos) C.env) (λρ=>(M.lift (getO ρ i)).bind λxs=>(evE Φ ρ e).bind λv=>(M.lift (appV xs v)).bind λys=>M.pure (.next,ρ.set i (.own ys))):=by
 intro ρ σ fl ρ' σ' hf s Mu ad F E Q hQ
 obtain⟨xs,ho,hf1⟩:=M.bl hf
 obtain⟨V,σ1,h1,hf2⟩:=M.bind_some hf1
 obtain⟨ys,hz,hf3⟩:=M.bl hf2
 replace hQ:=hq_pure hf3 hQ
 obtain⟨hl,rfl⟩:=ite_some hz
 subst ha
 have hst:=isE_star h C.env
 refine wpAny_Expr_any (wpAny_Call_method1_late rfl hline (by rw[hst];rfl) ?_) (noInter X) rfl
 refine cps λPP kk=>?_
 obtain⟨rd,_,vs0,q1,_,_⟩:=F.slot i x (inTb_mem hi) _ (getO_some ho)
 refine kk ?_
 refine name_rd X rd hx ⟨"list","list.append",PySem.F.plainAttrs_list,PySem.F.slot_list_append,PySem.F.type_list_append,q1.is.typeIs,plain_obj q1,callWith_plain (λa e=>nomatch e) rfl (Calls.evalArgs_plain (Calls.spliced_cons (frm_ev X hΦ F h h1 λu s1 F1 r1 k1=>Calls.spliced_nil ?_)))⟩
 refine cps λPP kk=>?_
 obtain⟨_,mu,vs,q1,q2,q3⟩:=F1.slot i x (inTb_mem hi) _ (getO_some ho)
 refine kk ?_
 exact append_ok q1 (Nat.le_trans q3 lim_line) λh' hl' hs=>
  hQ .next _ Mu ad (F1.lst X (inTb_mem hi) (getO_some ho) (tk:=s1.toks) hl' (by rw[Array.toList_push];exact q2.append (.cons r1 .nil)) (by rw[Array.size_push,show vs.size=xs.length from q2.length];exact hl) hs) ((Step.of k1).trans (.but mu λb o hb e=>hs.extBut b o hb e) F1.aw) trivial
theorem extV_i{xs zs:List V}{v:V}(h:extV xs v=some zs):∃ys,v=.tup ys/\xs.length+ys.length<=lim/\xs++ys=zs:=by
 cases v with
 |tup ys=>exact⟨ys,rfl,ite_some h⟩
 |_=>exact nomatch h
theorem s_extO(X:Fx C s0)(hΦ:PhiAll C Φ){i:Nat}{e:E}{x at_:Str}{p ap cp pos:Pos}{v:PySem.Expr}(hi:inTb C.tb i x=true)(hx:(x !=dbg)=true)(ha:at_=Str.ofString "extend")(hline:(ap.endLine==cp.line)=true)(h:IsE C.env.kindOf C.tb e v):
  StOk C s0 (exec (.Expr (.Call (.Attribute (.Name x p) at_ ap) [v] [] cp) pos) C.env) (λρ=>(M.lift (getO ρ i)).bind λxs=>(evE Φ ρ e).bind λv=>(M.lift (extV xs v)).bind λys=>M.pure (.next,ρ.set i (.own ys))):=by
 intro ρ σ fl ρ' σ' hf s Mu ad F E Q hQ
 obtain⟨xs,ho,hf1⟩:=M.bl hf
 obtain⟨V,σ1,h1,hf2⟩:=M.bind_some hf1
 obtain⟨zs,hz,hf3⟩:=M.bl hf2
 replace hQ:=hq_pure hf3 hQ
 obtain⟨ys,rfl,hl,rfl⟩:=extV_i hz
 subst ha
 have hst:=isE_star h C.env
 refine wpAny_Expr_any (wpAny_Call_method1_late rfl hline (by rw[hst];rfl) ?_) (noInter X) rfl
 refine cps λPP kk=>?_
 obtain⟨rd,_,vs0,q1,_,_⟩:=F.slot i x (inTb_mem hi) _ (getO_some ho)
 refine kk ?_
 refine name_rd X rd hx ⟨"list","list.extend",PySem.F.plainAttrs_list,PySem.F.slot_list_extend,PySem.F.type_list_extend,q1.is.typeIs,plain_obj q1,callWith_plain (λa e=>nomatch e) rfl (Calls.evalArgs_plain (Calls.spliced_cons (frm_ev X hΦ F h h1 λu s1 F1 r1 k1=>Calls.spliced_nil ?_)))⟩
 refine cps λPP kk=>?_
 obtain⟨_,mu,vs,q1,q2,q3⟩:=F1.slot i x (inTb_mem hi) _ (getO_some ho)
 obtain⟨a,us,rfl,_,hu,q⟩:=r1.inv
 refine kk ?_
 have e1:vs.size+us.size<=lim:=by rw[show vs.size=xs.length from q2.length,show us.size=ys.length from q.length];exact hl
 exact extend_ok q1 hu (Nat.le_trans e1 lim_line) λh' hl' hs=>
  hQ .next _ Mu ad (F1.lst X (inTb_mem hi) (getO_some ho) (tk:=s1.toks) hl' (by rw[Array.toList_append];exact q2.append q) (Array.size_append▸e1) hs) ((Step.of k1).trans (.but mu λb o hb e=>hs.extBut b o hb e) F1.aw) trivial
theorem frm_w(X:Fx C s0)(F:Frm C s0 Mu ad ρ σ s){i:Nat}{x:Str}{p:Pos}(hi:inTb C.tb i x=true)(hx:(x !=dbg)=true)(hv:getV ρ i=some .w){E:Value->Shared->Prop}{Q:Value->Shared->Prop}(h:∀p,C.wa=some p->Q (.ref p.1) s):
  wpAny (model C.prog C.w) C.A (eval (.Name x p) C.env) Q E s:=by
 refine cps λPP kk=>?_
 obtain⟨w,r,q⟩:=F.slot i x (inTb_mem hi) _ (getV_some hv)
 obtain⟨p,e,rfl⟩:=q.inv
 refine kk ?_
 exact name_rd X r hx (h p e)
theorem put_i{w w':W}{f:Fld}{v:V}{u:Unit}(h:w.put f v=some (u,w')):∃n,v=.int n/\((f=.at_/\w'={w with at_:=n})\/(f=.left/\w'={w with left:=n})):=by
 cases v with
 |int n=>cases f with
  |given=>exact nomatch h
  |at_=>exact⟨n,rfl,.inl ⟨rfl,(congrArg Prod.snd (Option.some.inj h)).symm⟩⟩
  |left=>exact⟨n,rfl,.inr ⟨rfl,(congrArg Prod.snd (Option.some.inj h)).symm⟩⟩
 |_=>exact nomatch h
theorem WRows.mono{wa:Option (Addr×Option Addr)}{Bad:Addr->Prop}{h h':Heap}{W W':Mine.W}{aw:Addr}{vr:Value}(c:WRows wa Bad h W aw vr)(e1:W'.fin=W.fin)(e2:W'.rows=W.rows)(hk:∀b o,b≠aw->h.get? b=some o->h'.get? b=some o)(hb:∀b o,¬Bad b->h.get? b=some o->h'.get? b=some o):WRows wa Bad h' W' aw vr:=by
 cases c with
 |fin n e=>exact .fin n (e1.trans e)
 |run n q ne l r sz=>exact .run n ⟨e1.trans q.1,q.2⟩ ne (lst_at l λo e=>hk _ o ne.symm e) (e2▸r.mono (λ_ q=>.inl q) hb) sz
theorem s_wset(X:Fx C s0)(hΦ:PhiAll C Φ){i k:Nat}{f:Fld}{e:E}{x y:Str}{p p2 sp pos:Pos}{v:PySem.Expr}(hi:inTb C.tb i x=true)(hx:(x !=dbg)=true)(hy:y=fldName f)(h:IsE C.env.kindOf C.tb e v)(hc:notComp v=true):
  StOk C s0 (exec (.Assign [.Subscript (.Name x p) (.Constant (.str y) k p2) sp] v pos) C.env) (λρ=>(evE Φ ρ e).bind λv=>(M.lift (getV ρ i)).bind λx=>(M.onW x λw=>w.put f v).bind λ_=>M.pure (.next,ρ)):=by
 intro ρ σ fl ρ' σ' hf s Mu ad F E Q hQ
 refine cps λPP kk=>?_
 obtain⟨V,σ1,h1,hf1⟩:=M.bind_some hf
 obtain⟨X0,hv,hf2⟩:=M.bl hf1
 obtain⟨u,σ2,h2,hf3⟩:=M.bind_some hf2
 obtain⟨rfl,w0,w1,rfl,hw,rfl⟩:=M.onW_i h2
 replace hQ:=hq_pure hf3 hQ
 obtain⟨n,rfl,hw2⟩:=put_i hw
 clear hw
 subst hy
 refine kk ?_
 refine wpAny_Assign_Subscript (frm_ev X hΦ F h h1 λu s1 F1 r1 k1=>frm_w X F1 hi hx hv λp hp=>Calls.Constant_str ?_) (swaps_no hc)
 have F2:=F1.kept' X (Kept.tok s1 (s1.toks+1))
 obtain⟨t,rfl⟩:=r1.inv
 cases w_at F2.w hp with
 |@mk vg vr ta tl hd rg c=>
  refine wpAny_setItem_pairs (knd:=strKind C.prog C.w) (strKind_is _ _ _ _) hd (λh' hd' hs=>?_) (show 4<=sizeLine by rw[sizeLine_eq];exact Nat.le_add_left _ _)
  have hk:∀b o,b≠p.1->s1.heap.get? b=some o->h'.get? b=some o:=λb o hb e=>hs.extBut b o hb e
  obtain⟨F3,k3⟩:=F1.chgW X c.isW (s1.toks+1+1) (σ2:=some w1) hk λhb=>by
   rcases hw2 with⟨rfl,rfl⟩|⟨rfl,rfl⟩
   ·exact .on (ta:=t) (tl:=tl) hd' (rg.mono (λ_ q=>.inl q) hb) (c.mono rfl rfl hk hb)
   ·exact .on (ta:=ta) (tl:=t) hd' (rg.mono (λ_ q=>.inl q) hb) (c.mono rfl rfl hk hb)
  exact hQ .next _ Mu ad F3 (.of (k1.trans k3)) trivial
theorem s_wapp(X:Fx C s0)(hΦ:PhiAll C Φ){i k:Nat}{e:E}{x y at_:Str}{p p2 sp ap cp pos:Pos}{v:PySem.Expr}(hi:inTb C.tb i x=true)(hx:(x !=dbg)=true)(hy:y=Str.ofString "rows")(ha:at_=Str.ofString "append")(hline:(ap.endLine==cp.line)=true)(h:IsE C.env.kindOf C.tb e v):
  StOk C s0 (exec (.Expr (.Call (.Attribute (.Subscript (.Name x p) (.Constant (.str y) k p2) sp) at_ ap) [v] [] cp) pos) C.env) (λρ=>(M.lift (getV ρ i)).bind λx=>(M.onW x W.open).bind λ_=>(evE Φ ρ e).bind λv=>(M.onW x λw=>w.app v).bind λ_=>M.pure (.next,ρ)):=by
 intro ρ σ fl ρ' σ' hf s Mu ad F E Q hQ
 refine cps λPP kk=>?_
 obtain⟨X0,hv,hf1⟩:=M.bl hf
 obtain⟨u0,σ1,h0,hf2⟩:=M.bind_some hf1
 obtain⟨rfl,w0,w00,rfl,h00,rfl⟩:=M.onW_i h0
 obtain⟨hfin,e0⟩:=ite_some h00
 cases e0
 obtain⟨V,σ2,h1,hf3⟩:=M.bind_some hf2
 obtain⟨u1,σ3,h2,hf4⟩:=M.bind_some hf3
 obtain⟨_,w1,w2,rfl,hw,rfl⟩:=M.onW_i h2
 obtain⟨hl,e2⟩:=ite_some hw
 cases e2
 replace hQ:=hq_pure hf4 hQ
 subst hy;subst ha
 refine kk ?_
 clear h0 h00 h2 hf hf1 hf2 hf3 hw
 have hst:=isE_star h C.env
 refine wpAny_Expr_any (wpAny_Call_method1_late rfl hline (by rw[hst];rfl) (Subscript_ (frm_w X F hi hx hv λp hp=>Calls.Constant_str ?_))) (noInter X) rfl
 cases w_at (F.kept' X (Kept.tok s (s.toks+1))).w hp with
 |mk hd rg c=>
  refine cps λPP kk=>?_
  obtain⟨ar,rs,q1,rfl,q3,q4,_,_⟩:=c.run_i hfin
  refine kk ?_
  refine tail_ok hd.typeIs PySem.F.slot_dict_getitem.lookup (wpAny_getItem_of (knd:=strKind C.prog C.w) (strKind_is _ _ _ _) hd.mapOf rfl ?_)
  have k1:Kept s {s with toks:=s.toks+1+1}:=Kept.tok _ _
  refine⟨"list","list.append",PySem.F.plainAttrs_list,PySem.F.slot_list_append,PySem.F.type_list_append,q4.is.typeIs,plain_obj q4,callWith_plain (λa e=>nomatch e) rfl (Calls.evalArgs_plain (Calls.spliced_cons (frm_ev X hΦ (F.kept' X k1) h h1 λu s2 F2 r2 k2=>Calls.spliced_nil ?_)))⟩
  clear hd rg c q4
  cases w_at F2.w hp with
  |mk hd' rg' c'=>
   refine cps λPP kk=>?_
   obtain⟨ar',rs',q1',rfl,q3',q4',q5',q6'⟩:=c'.run_i hl.1
   refine kk ?_
   cases q1.symm.trans q1'
   refine append_ok q4' (Nat.le_trans q6' lim_line) λh' hl' hs=>?_
   have hk:∀b o,b≠ar->s2.heap.get? b=some o->h'.get? b=some o:=λb o hb e=>hs.extBut b o hb e
   obtain⟨F3,k3⟩:=F2.chgW X (b0:=ar) (σ2:=some {w1 with rows:=w1.rows++[V]}) ⟨_,q1,.inr rfl⟩ s2.toks hk λhb=>.on (hd'.at λo e=>hk _ o q3' e) (rg'.mono (λ_ q=>.inl q) hb)
    (.run q1 ⟨hl.1,rfl⟩ q3' hl' (by rw[Array.toList_push];exact(q5'.append (.cons r2 .nil)).mono (λ_ q=>.inl q) hb) (by rw[Array.size_push,show rs'.size=w1.rows.length from q5'.length];exact hl.2))
   exact hQ .next _ Mu ad F3 (.of (((KeptW.of k1).trans k2).trans k3)) trivial
end
end
section
open Cx
variable{C:Cx}{s0:Shared}{Mu:Addr->Prop}{ad:Nat->Addr}{ρ:Env'}{σ σ':Option W}{s s':Shared}{Φ:Nat->List V->M V}
noncomputable def swapB(kd:Str->Option NameKind)(sc:Scope)(y:Str)(py cp:Pos):Bool:=
 kd y==some .local&&py.line==cp.line&&!(sc.names.any λ(n,k)=>n==y&&(k==.local||k==.cell))
theorem swaps_yes{e:PySem.Expr}{gs:List Comprehension}{sc:Scope}{cp py:Pos}{y:Str}{n:Nat}{env:PySem.Env}(hk:env.scope.kind=.function)(h:swapB env.kindOf sc y py cp=true):
  swapsWith (.ListComp e gs sc cp) (some (.Name y py)) n env=pure true:=by
 unfold swapB at h
 simp only[Bool.and_eq_true]at h
 have e1:(env.blockKind==ScopeKind.function)=true:=by unfold Env.blockKind;rw[hk];rfl
 show(pure (env.blockKind==.function&&env.kindOf y==some .local&&py.line==(Expr.ListComp e gs sc cp).pos.line&&!(sc.names.any λ(n,k)=>n==y&&(k==.local||k==.cell))):Sem Bool)=_
 have e2:(py.line==(Expr.ListComp e gs sc cp).pos.line)=true:=h.1.2
 rw[e1,h.1.1,e2,h.2];rfl
theorem lstV_i{v:V}{xs:List V}(h:lstV v=some xs):v=.lst xs:=by
 cases v with
 |lst ys=>exact congrArg V.lst (Option.some.inj h)
 |_=>exact nomatch h
theorem s_comp(X:Fx C s0)(hΦ:PhiAll C Φ)(own:Bool){i j:Nat}{elt iter:E}{conds:Es}{y x:Str}{py px cp pos:Pos}{xe xi:PySem.Expr}{xc:List PySem.Expr}{sc:Scope}(hi:inTb C.tb i y=true)(hsw:swapB C.env.kindOf sc y py cp=true)
  (g1:compOk C.env.kindOf sc x=true)(g2:okE C.env.kindOf C.tb iter xi=true)(g3:okE (compKd C.env.kindOf sc) (compTb C.env.kindOf sc C.tb j x) elt xe=true)(g4:okEs (compKd C.env.kindOf sc) (compTb C.env.kindOf sc C.tb j x) conds xc=true):
  StOk C s0 (exec (.Assign [.Name y py] (.ListComp (dE elt xe) [⟨.Name x px,dE iter xi,dEs conds xc,0⟩] sc cp) pos) C.env) (λρ=>(evE Φ ρ (.comp j elt iter conds)).bind λv=>(M.lift (lstV v)).bind λxs=>M.pure (.next,ρ.set i (if own then .own xs else .val (.lst xs)))):=by
 intro ρ σ fl ρ' σ' hf s Mu ad F E Q hQ
 obtain⟨V,σ1,h1,hf1⟩:=M.bind_some hf
 have O:=F.ok X
 have K:CompScope (C.fr Mu ρ) sc x:=compScope (C:=C.fr Mu ρ) g1
 have hs:=dE_set iter xi C.env
 rw[exec_Assign_Name_used _ _ _ _ (swaps_yes X.ok.kind hsw)]
 refine wpAny_bind (wpAny_standAt (wpAny_bind ?_))
 show wpAny _ C.A (do let _ ←comprehension (.ListComp (dE elt xe) [⟨.Name x px,dE iter xi,dEs conds xc,0⟩] sc cp) sc C.env _ (newList []) false (eval (dE iter xi) C.env) (some (assign (.Name y py) C.env))) _ _ s
 refine wpAny_bind (wpAny_mono (wpAny_comprehension_free (use:=some (assign (.Name y py) C.env)) (Q:=λ_ s'=>Q .next s') rfl hs (closure_ok (K.free' O)) K.kind K.loc ?_) (λ_ s' hq=>wpAny_pure (wpAny_pure hq)) λ_ _ e=>e)
 have hΦ':PhiAll (C.fr Mu ρ) Φ:=λB a b=>hΦ B a b
 have hk:∀D F v,(((C.fr Mu ρ).also D).inner sc F j x v).env.kindOf=compKd C.env.kindOf sc:=λD F v=>by funext y;exact relabel_kind X.ok.kind sc y
 refine comp_core (C:=C.fr Mu ρ) (j:=j) (RR:=λacc G=>compPost (model C.prog C.w) C.A E (some (assign (.Name y py) C.env)) (λ_ s'=>Q .next s') acc G) O K
  (snd_e iter _ O hΦ' xi g2).1 (cond:=λv=>condM (evC Φ (ρ.set j (.val v)) conds)) (ef:=λv=>evE Φ (ρ.set j (.val v)) elt)
  (λD G v O'=>⟨(snd_es conds _ O' (λB a b=>hΦ B a b) xc ((hk D G v).symm▸g4)).2.2,(snd_e elt _ O' (λB a b=>hΦ B a b) xe ((hk D G v).symm▸g3)).1⟩) h1 (F.st X) λD G s1 m hne hD hG hns k w2 r2=>?_
 have w:=comp_w w2
 have r:=comp_val ((F.st X).live D hD) hne r2
 show wpAny _ C.A (assign (.Name y py) C.env (.ref D)) _ _ _
 refine wpAny_assign_Name ?_
 have aliveG:∃o,s1.heap.get? G=some o:=NsAlive hns
 have hbad:∀b,(C.also λb=>Mu b\/b=G).Bad b->((C.fr Mu ρ).also (·=G)).Bad b:=by
  rintro b (q|q|q)
  ·exact .inl (.inl q)
  ·exact .inl (.inr q)
  ·exact .inr q
 have F1:=F.addMuW X k hG aliveG (w.mono (λb q=>.inl (hbad b q)) λ_ _ _ e=>e)
 have r':Rep C.wa (C.also λb=>Mu b\/b=G).Bad s1.heap (.ref D) V:=r.mono (λb q=>.inl (hbad b q)) λ_ _ _ e=>e
 have hLG:C.env.locals≠G:=by rintro rfl;obtain⟨o,ho⟩:=F.alive _ F.loc.1;rw[hG]at ho;exact nomatch ho
 have hcG:∀x c,C.env.cells.lookup x=some c->c≠G:=by rintro x c e rfl;obtain⟨o,ho⟩:=F.alive _ (F.cells x c e).1;rw[hG]at ho;exact nomatch ho
 have hoG:∀k xs,ρ[k]?=some (.own xs)->ad k≠G:=by rintro k xs e q;obtain⟨o,ho⟩:=F.alive _ (F.omu k xs e);rw[q,hG]at ho;exact nomatch ho
 have hoD:∀k xs,ρ[k]?=some (.own xs)->ad k≠D:=by rintro k xs e q;obtain⟨o,ho⟩:=F.alive _ (F.omu k xs e);rw[q,hD]at ho;exact nomatch ho
 have last:∀{Mu1:Addr->Prop}{ad2:Nat->Addr}{sl:Slot}{s2:Shared},(∀b,Mu b->Mu1 b)->Mu1 G->(∀b,Mu1 b->Mu b\/s.heap.get? b=none)->(∀xs,sl=.own xs->ad2 i≠G)->Frm C s0 Mu1 ad2 (ρ.set i sl) σ1 s2->
   (∃b0,Mu1 b0/\(b0=C.env.locals\/∃y,C.env.cells.lookup y=some b0)/\∀b o,b≠b0->s1.heap.get? b=some o->s2.heap.get? b=some o)->(∀k,k≠i->ad2 k=ad k)->(fl,ρ')=(Fl.next,ρ.set i sl)->σ'=σ1->
   ∃m,s2.heap.Ns G m/\∀h',Heap.SameBut G s2.heap h'->Q .next {s2 with heap:=h'}:=by
  intro Mu1 ad2 sl s2 hm hmG hmd hsl F2 hb hadk hfl hσ
  cases hfl;subst hσ
  obtain⟨b0,m0,hb0,k0⟩:=hb
  have hG0:G≠b0:=by
   rintro rfl
   rcases hb0 with q|⟨y,q⟩
   ·exact hLG q.symm
   ·exact hcG y _ q rfl
  refine⟨m,hns.at' λo e=>k0 _ o hG0 e,λh' hs'=>?_⟩
  have kk:∀b o,b≠G->s2.heap.get? b=some o->h'.get? b=some o:=λb o hb e=>hs'.extBut b o hb e
  have F3:=F2.drop X hmG hLG hcG (λk xs e=>?_) kk (tk:=s2.toks)
  ·refine hQ .next _ _ ad2 F3 ⟨λb q=>hmd b q.1,λb o n nm e=>?_⟩ trivial
   have e1:=k.heap b o n e
   refine kk b o (by rintro rfl;rw[hG]at e;exact nomatch e) (k0 b o ?_ e1)
   rintro rfl
   rcases hmd _ m0 with q|q
   ·exact nm q
   ·rw[q]at e;exact nomatch e
  ·rcases set_i e with⟨rfl,q⟩|⟨ne,e⟩
   ·exact hsl xs q
   ·rw[hadk k (Ne.symm ne)];exact hoG k xs e
 obtain⟨xs,hx,hf2⟩:=M.bl hf1
 obtain⟨e',e''⟩:=M.pure_some hf2
 cases lstV_i hx
 cases own with
 |false=>
  refine F1.store X (inTb_mem hi) (a:=ad i) (sl:=.val (.lst xs)) r' (λxs q=>by exact nomatch q) λs2 ad2 F2 hb hadk=>?_
  refine last (λb q=>.inl q) (.inr rfl) (λb q=>q.imp id λq=>by rw[q];exact hG) (λxs q=>by trivial) F2 hb (λk hne=>by rw[hadk,if_neg hne]) (by trivial) e''
 |true=>
  obtain⟨vs,zs,ez,ha,q,hsz⟩:=r2
  cases ez
  have aliveD:∃o,s1.heap.get? D=some o:=by obtain⟨n,e⟩:=ha;exact⟨_,e⟩
  have hA:∀b,(b=G\/b=D)->s.heap.get? b=none:=λb q=>by rcases q with q|q<;>rw[q]<;>assumption
  have hbad2:∀b,(C.also λb=>Mu b\/(b=G\/b=D)).Bad b->((C.fr Mu ρ).also λb=>b=G\/b=D).Bad b:=by
   rintro b (q|q|q)
   ·exact .inl (.inl q)
   ·exact .inl (.inr q)
   ·exact .inr q
  have F1':=F.addMuS X k hA (λb q=>by rcases q with q|q<;>rw[q]<;>assumption) (w2.mono (λb q=>.inl (hbad2 b q)) λ_ _ _ e=>e)
  refine F1'.store X (inTb_mem hi) (a:=D) (sl:=.own _) ⟨rfl,.inr (.inr rfl),vs,ha,q.mono (λb q=>.inl (hbad2 b q)) λ_ _ _ e=>e,hsz⟩ (λxs _ k ys e _=>hoD k ys e) λs2 ad2 F2 hb hadk=>?_
  refine last (λb q=>.inl q) (.inr (.inl rfl)) (λb q=>q.imp id (hA b)) (λxs q=>?_) F2 hb (λk hne=>by rw[hadk,if_neg hne]) (by trivial) e''
  rw[hadk,if_pos rfl];exact hne
end
section
open Cx
variable{C:Cx}{s0:Shared}{Mu:Addr->Prop}{ad:Nat->Addr}{ρ:Env'}{σ σ':Option W}{s s':Shared}{Φ:Nat->List V->M V}
noncomputable def dN:List Nat->List PySem.Expr->List PySem.Expr
 |[],_=>[]
 |_::is,xs=>xName (xs.headD xNone)::dN is xs.tail
noncomputable def okN(tb:Tb):List Nat->List PySem.Expr->Bool
 |[],_=>true
 |i::is,xs=>inTb tb i (xNm (xs.headD xNone))&&okN tb is xs.tail
theorem dN_len{env:PySem.Env}:∀(is:List Nat)(xs:List PySem.Expr),(assignEach (dN is xs) env).length=is.length/\(assignEach (dN is xs) env).findIdx? (·.1)=none
 |[],_=>⟨rfl,rfl⟩
 |i::is,xs=>by
  have h:=dN_len (env:=env) is xs.tail
  have e:assignEach (dN (i::is) xs) env=(false,assign (xName (xs.headD xNone)) env)::assignEach (dN is xs.tail) env:=rfl
  rw[e]
  exact⟨congrArg (·+1) h.1,by rw[List.findIdx?_cons,h.2];rfl⟩
theorem unpL_cons{i:Nat}{is:List Nat}{Vs:List V}{ρ ρ':Env'}(h:unpL (i::is) Vs ρ=some ρ'):∃v r,Vs=v::r/\unpL is r (ρ.set i (.val v))=some ρ':=match Vs,h with
 |v::r,h=>⟨v,r,rfl,h⟩
theorem unpL_nil{Vs:List V}{ρ ρ':Env'}(h:unpL [] Vs ρ=some ρ'):Vs=[]/\ρ=ρ':=match Vs,h with
 |[],h=>⟨rfl,Option.some.inj h⟩
theorem unpL_len:∀{is:List Nat}{vs:List V}{ρ ρ':Env'},unpL is vs ρ=some ρ'->is.length=vs.length
 |[],_,_,_,h=>(unpL_nil h).1▸rfl
 |_::_,_,_,_,h=>let⟨_,_,e,q⟩:=unpL_cons h;e▸congrArg (·+1) (unpL_len q)
theorem s_stores(X:Fx C s0):∀(is:List Nat)(ts:List PySem.Expr)(vs:List Value)(Vs:List V)(ρ ρ':Env')(s:Shared)(ad:Nat->Addr),okN C.tb is ts=true->unpL is Vs ρ=some ρ'->Frm C s0 Mu ad ρ σ s->Reps C.wa (C.also Mu).Bad s.heap vs Vs->
  ∀(E:Value->Shared->Prop)(Q:Unit->Shared->Prop),(∀s' ad',Frm C s0 Mu ad' ρ' σ s'->Step C.wa Mu s Mu s'->Q () s')->wpAny (model C.prog C.w) C.A (assignInOrder ((assignEach (dN is ts) C.env).map (·.2)) vs) Q E s
 |[],ts,vs,Vs,ρ,ρ',s,ad,_,hu,F,r,E,Q,hQ=>by
  refine cps λPP kk=>?_
  obtain⟨rfl,rfl⟩:=unpL_nil hu
  cases r
  refine kk ?_
  exact wpAny_pure (hQ s ad F (.of (.refl s)))
 |i::is,ts,vs,Vs,ρ,ρ',s,ad,h,hu,F,rr,E,Q,hQ=>by
  obtain⟨V,xs,rfl,hu⟩:=unpL_cons hu
  cases rr with
  |cons q qs=>
   exact wpAny_bind (wpAny_holding (wpAny_assign_Name (frm_asg X (inTb_mem (and_i h).1) F q λs2 ad2 F2 t2 k2=>
    s_stores X is ts.tail _ xs _ ρ' s2 ad2 (and_i h).2 hu F2 (qs.mono (λ_ q=>.inl q) k2) E Q λs' ad' F' t'=>hQ s' ad' F' (t2.trans t' F2.aw))))
noncomputable def notTup:PySem.Expr->Bool
 |.Tuple ..=>false
 |_=>true
theorem swapped_no{ts:List PySem.Expr}{k:Nat}{tp:Pos}{v:PySem.Expr}{env:PySem.Env}(h:notTup v=true):swappedStores [.Tuple ts k tp] v env=pure none:=by
 cases v<;>first|rfl|exact Bool.noConfusion (h)
theorem unp_i{is:List Nat}{ρ:Env'}{V:V}{fl:Fl}{ρ':Env'}(h:((M.lift (unpV is V ρ)).bind λρ'=>M.pure (Fl.next,ρ')) σ=some ((fl,ρ'),σ')):∃xs,V=.tup xs/\unpL is xs ρ=some ρ'/\fl=.next/\σ'=σ:=by
 obtain⟨ρ2,hu,h2⟩:=M.bl h
 cases h2
 cases V with
 |tup xs=>exact⟨xs,rfl,hu,rfl,rfl⟩
 |_=>exact nomatch hu
theorem s_unp(X:Fx C s0)(hΦ:PhiAll C Φ){is:List Nat}{e:E}{ts:List PySem.Expr}{k:Nat}{tp pos:Pos}{v:PySem.Expr}(hi:okN C.tb is ts=true)(h:IsE C.env.kindOf C.tb e v)(hc:notComp v=true)(ht:notTup v=true):
  StOk C s0 (exec (.Assign [.Tuple (dN is ts) k tp] v pos) C.env) (λρ=>(evE Φ ρ e).bind λv=>(M.lift (unpV is v ρ)).bind λρ'=>M.pure (.next,ρ')):=by
 intro ρ σ fl ρ' σ' hf s Mu ad F E Q hQ
 refine cps λPP kk=>?_
 obtain⟨V,σ1,h1,hf1⟩:=M.bind_some hf
 obtain⟨xs,rfl,hu,rfl,rfl⟩:=unp_i hf1
 refine kk ?_
 refine Assign_Tuple (frm_ev X hΦ F h h1 λu s1 F1 r1 k1=>?_) (by show swapsWith v (some (.Tuple (dN is ts) k tp)) pos.line C.env=pure false;exact swaps_no hc) (swapped_no ht)
 obtain⟨a,vs,rfl,_,ha,q⟩:=r1.inv
 have e1:=dN_len (env:=C.env) is ts
 refine wpAny_assign_Tuple X.ok.hh ha.is (by rw[e1.1,unpL_len hu,←q.length,Array.length_toList]) e1.2 λh' hx=>?_
 have kk:Kept s1 {s1 with heap:=h'}:=Kept.mk' s1 λb o e=>hx b o (Nat.ne_of_lt (Heap.lt_size e)) e
 have F2:=F1.kept' X kk
 exact s_stores X is ts vs.toList _ _ _ _ ad hi hu F2 (q.keep kk.heap) E _ λs2 ad2 F3 t3=>hQ .next s2 Mu ad2 F3 ((Step.of (k1.trans (.of kk))).trans t3 F2.aw) trivial
noncomputable def swap3(kd:Str->Option NameKind)(tb:Tb)(i j k:Nat)(x y z:Str)(p q r:Pos)(abc:List PySem.Expr):Bool:=
 (inTb tb i x&&(inTb tb j y&&inTb tb k z))&&((kd x==some .local&&(kd y==some .local&&kd z==some .local))&&((q.line==p.line&&r.line==p.line)&&((x !=y&&(x !=z&&y !=z))&&
  (!(abc.all (foldedForSure 8))&&(!(abc.all (constantsAlone 8))&&!(abc.any λ|.Starred ..=>true|_=>false))))))
theorem notT{b:Bool}(h:(!b)=true):b=false:=by
 cases b with
 |false=>rfl
 |true=>exact nomatch h
theorem dups3{x y z:Str}(a1:(x !=y)=true)(a2:(x !=z)=true)(a3:(y !=z)=true):[x,y,z].eraseDups=[x,y,z]:=by
 have b1:x≠y:=bne_iff_ne.mp a1
 have b2:x≠z:=bne_iff_ne.mp a2
 have b3:y≠z:=bne_iff_ne.mp a3
 simp[List.eraseDups_cons,b1.symm,b2.symm,b3.symm]
theorem swapped3{env:PySem.Env}{tb:Tb}(hk:env.scope.kind=.function){i j k kt kk:Nat}{x y z:Str}{p q r tp vp:Pos}{a b c:PySem.Expr}(h:swap3 env.kindOf tb i j k x y z p q r [a,b,c]=true):
  swappedStores [.Tuple [.Name x p,.Name y q,.Name z r] kt tp] (.Tuple [a,b,c] kk vp) env=pure (some [x,y,z]):=by
 have h:=(and_i h).2
 have d:=(and_i h).1
 have h:=(and_i h).2
 have l:=(and_i h).1
 have h:=(and_i h).2
 have n:=(and_i h).1
 have f:=(and_i h).2
 have f1:=notT (and_i f).1
 have f2:=notT (and_i (and_i f).2).1
 have f3:=notT (and_i (and_i f).2).2
 have e1:(env.blockKind !=ScopeKind.function)=false:=by unfold Env.blockKind;rw[hk];rfl
 have e2:=dups3 (and_i n).1 (and_i (and_i n).2).1 (and_i (and_i n).2).2
 have e3:([Expr.Name x p,.Name y q,.Name z r].filterMap λ
  |.Name id pos=>if env.kindOf id==some .local&&pos.line==(Expr.Name x p).pos.line then some id else none
  |_=>none)=[x,y,z]:=by
  have l0:(p.line==(Expr.Name x p).pos.line)=true:=beq_self_eq_true p.line
  have l1:(q.line==(Expr.Name x p).pos.line)=true:=(and_i l).1
  have l2:(r.line==(Expr.Name x p).pos.line)=true:=(and_i l).2
  simp only[List.filterMap_cons,(and_i d).1,(and_i (and_i d).2).1,(and_i (and_i d).2).2,l0,l1,l2,Bool.and_self,if_true,List.filterMap_nil]
 unfold swappedStores
 refine(if_neg (by rw[e1];exact Bool.false_ne_true)).trans ((if_neg ?_).trans ((if_neg ?_).trans ((if_neg ?_).trans ((if_neg ?_).trans ?_))))
 ·intro q;exact Bool.noConfusion (f3.symm.trans q)
 ·have key:∀ns:List Str,ns=[x,y,z]->¬((ns.length !=0+1+1+1||ns.eraseDups.length !=ns.length)=true):=λns q=>by rw[q,e2];exact Bool.false_ne_true
  exact key _ e3
 ·rw[f1];exact Bool.false_ne_true
 ·rw[f2];exact Bool.false_ne_true
 ·exact congrArg (λns=>(pure (some ns):Sem (Option (List Str)))) e3
theorem reps3{wa:Option (Addr×Option Addr)}{Bad:Addr->Prop}{h:Heap}{l:List Value}{V1 V2 V3:V}(r:Reps wa Bad h l [V1,V2,V3]):∃v1 v2 v3,l=[v1,v2,v3]/\Rep wa Bad h v1 V1/\Rep wa Bad h v2 V2/\Rep wa Bad h v3 V3:=by
 cases r with|cons w1 r=>cases r with|cons w2 r=>cases r with|cons w3 r=>cases r;exact⟨_,_,_,rfl,w1,w2,w3⟩
theorem s_unp3(X:Fx C s0)(hΦ:PhiAll C Φ){i j k kt kk:Nat}{e:E}{x y z:Str}{p q r tp vp pos:Pos}{a b c:PySem.Expr}(hs:swap3 C.env.kindOf C.tb i j k x y z p q r [a,b,c]=true)(h:IsE C.env.kindOf C.tb e (.Tuple [a,b,c] kk vp)):
  StOk C s0 (exec (.Assign [.Tuple [.Name x p,.Name y q,.Name z r] kt tp] (.Tuple [a,b,c] kk vp) pos) C.env) (λρ=>(evE Φ ρ e).bind λv=>(M.lift (unpV [i,j,k] v ρ)).bind λρ'=>M.pure (.next,ρ')):=by
 intro ρ σ fl ρ' σ' hf s Mu ad F E Q hQ
 refine cps λPP kk=>?_
 obtain⟨V,σ1,h1,hf1⟩:=M.bind_some hf
 obtain⟨xs,rfl,hu,rfl,rfl⟩:=unp_i hf1
 obtain⟨V1,xs1,rfl,hu1⟩:=unpL_cons hu
 obtain⟨V2,xs2,rfl,hu2⟩:=unpL_cons hu1
 obtain⟨V3,xs3,rfl,hu3⟩:=unpL_cons hu2
 obtain⟨rfl,rfl⟩:=unpL_nil hu3
 refine kk ?_
 refine Assign_Tuple_swapped (frm_ev X hΦ F h h1 λu s1 F1 r1 k1=>?_) rfl (swapped3 X.ok.kind hs)
 have i0:=(and_i hs).1
 have i1:=inTb_mem (and_i i0).1
 have i2:=inTb_mem (and_i (and_i i0).2).1
 have i3:=inTb_mem (and_i (and_i i0).2).2
 have n:=(and_i (and_i (and_i (and_i hs).2).2).2).1
 clear hs i0
 have hne:∀{i j:Nat}{x y:Str},(i,x)∈C.tb->(j,y)∈C.tb->(x !=y)=true->i≠j:=λa b c e=>bne_iff_ne.mp c (X.one _ _ _ a (e▸b))
 have n1:=hne i1 i2 (and_i n).1
 have n2:=hne i1 i3 (and_i (and_i n).2).1
 have n3:=hne i2 i3 (and_i (and_i n).2).2
 clear n hne
 refine cps λPP kk=>?_
 obtain⟨a0,vs,rfl,_,ha,q0⟩:=r1.inv
 obtain⟨v1,v2,v3,hl,w1,w2,w3⟩:=reps3 q0
 refine kk ?_
 refine(show vs.size=[x,y,z].length from by rw[←Array.length_toList,hl];rfl)▸wpAny_unpackItems_tuple X.ok.hh ha.is λh' hx=>?_
 have kk:Kept s1 {s1 with heap:=h'}:=Kept.mk' s1 λb o e=>hx b o (Nat.ne_of_lt (Heap.lt_size e)) e
 have F2:=F1.kept' X kk
 rw[hl]
 refine wpAny_bind (wpAny_holding (bindName_ (frm_asg X i3 F2 (w3.keep kk.heap) λs3 ad3 F3 t3 k3=>?_)))
 refine wpAny_bind (wpAny_holding (bindName_ (frm_asg X i2 F3 ((w2.keep kk.heap).mono (λ_ q=>.inl q) k3) λs4 ad4 F4 t4 k4=>?_)))
 refine wpAny_bind (wpAny_holding (bindName_ (frm_asg X i1 F4 (((w1.keep kk.heap).mono (λ_ q=>.inl q) k3).mono (λ_ q=>.inl q) k4) λs5 ad5 F5 t5 k5=>?_)))
 have e5:((ρ.set k (.val V3)).set j (.val V2)).set i (.val V1)=((ρ.set i (.val V1)).set j (.val V2)).set k (.val V3):=by
  rw[List.set_comm _ _ n3.symm,List.set_comm _ _ n2.symm,List.set_comm _ _ n1.symm]
 exact wpAny_pure (hQ .next s5 Mu ad5 (e5▸F5) (((Step.of (k1.trans (.of kk))).trans t3 F2.aw).trans (t4.trans t5 F4.aw) F3.aw) trivial)
end
section
open Cx
variable{C:Cx}{s0:Shared}{Mu:Addr->Prop}{ad:Nat->Addr}{ρ:Env'}{σ σ':Option W}{s s':Shared}{Φ:Nat->List V->M V}
theorem lot_ok{prog:Program}{w:World}{A:Around}{E:Value->Shared->Prop}{target:PySem.Expr}{I:Addr}{v:Value}{Q:Unit->Shared->Prop}
  (h:∃o n vs,s.heap.get? I=some o/\o.cls=.type n/\o.data=.fields vs/\(n="list_iterator"\/n="tuple_iterator"\/n="range_iterator"))(hQ:Q () s):wpAny (model prog w) A (letOwnedTupleGo target (.ref I) v) Q E s:=by
 obtain⟨o,n,vs,ho,hc,hd,hn⟩:=h
 have hno:(["enumerate","zip","dict_itemiterator","dict_reverseitemiterator","odict_iterator","itertools.zip_longest","itertools.pairwise"].contains n)=false:=by rcases hn with rfl|rfl|rfl<;>rfl
 have main:∀T,wpAny (model prog w) A (do
   let o ←load I
   match o.cls,o.data with
   |.type n,.fields vs=>
    if["enumerate","zip","dict_itemiterator","dict_reverseitemiterator","odict_iterator","itertools.zip_longest","itertools.pairwise"].contains n&&vs[0]?==some (rawInt T)then
     rule "for.unpacks-the-owned-tuple"
     updateField I 0 .none
   |_,_=>pure ():Sem Unit) Q E s:=by
  intro T
  refine wpAny_bind (wpAny_load ho ?_)
  rw[hc,hd]
  simp only[hno,Bool.false_and,Bool.false_eq_true,if_false]
  exact wpAny_pure hQ
 unfold letOwnedTupleGo
 cases target<;>first|exact wpAny_pure hQ|(cases v<;>first|exact wpAny_pure hQ|exact main _)
theorem Fx.also(X:Fx C s0){D:Addr->Prop}(h:∀b,D b->C.H.get? b=none):Fx (C.also D) s0:=⟨X.ok.also h,X.keep0,X.kinds,X.one,X.inj,X.cinj⟩
theorem Frm.enter(X:Fx C s0)(F:Frm C s0 Mu ad ρ σ s)(k:Kept s s'){I:Addr}(hd:s.heap.get? I=none)(ha:∃o,s'.heap.get? I=some o):Frm (C.also (·=I)) s0 Mu ad ρ σ s':=by
 have F':=F.kept' X k
 have hb:∀b,((C.also (·=I)).also Mu).Bad b->(C.also Mu).Bad b\/s.heap.get? b=none:=by
  rintro b ((q|q)|q)
  ·exact .inl (.inl q)
  ·exact .inr (by rw[q];exact hd)
  ·exact .inl (.inr q)
 refine⟨F'.dead0,F'.alive,F'.kept,F.w.mono hb λb o _ e=>k.heap b o e,F'.loc,F'.cells,?_,F'.inj,?_,?_,F'.omu⟩
 ·intro i x m sl e
  have:=F.slot i x m sl e
  have hk:∀b o,¬isW C.wa b->s.heap.get? b=some o->s'.heap.get? b=some o:=λb o _ e=>k.heap b o e
  cases sl with
  |none=>trivial
  |val V=>obtain⟨v,q1,q2⟩:=this;exact⟨v,q1.keep hk,q2.mono hb λb o _ e=>k.heap b o e⟩
  |own xs=>
   obtain⟨q1,q2,vs,⟨n,q3⟩,q4,q5⟩:=this
   exact⟨q1.keep hk,q2,vs,⟨n,k.heap _ _ q3⟩,q4.mono hb λb o _ e=>k.heap b o e,q5⟩
 ·rintro b e (q|q)
  ·exact F'.live b e q
  ·obtain⟨o,ho⟩:=ha
   have q':b=I:=q
   rw[q',ho]at e;exact nomatch e
 ·rintro b m (q|q)
  ·exact F.sep b m q
  ·obtain⟨o,ho⟩:=F.alive b m
   have q':b=I:=q
   rw[q',hd]at ho;exact nomatch ho
theorem Frm.touch(X:Fx C s0)(F:Frm C s0 Mu ad ρ σ s){b0:Addr}(hb:C.Bad b0)(hw:¬isW C.wa b0)(hd0:s0.heap.get? b0=none){h':Heap}{tk:Nat}(ha:∃o,h'.get? b0=some o)(hk:∀b o,b≠b0->s.heap.get? b=some o->h'.get? b=some o):
  Frm C s0 Mu ad ρ σ {s with heap:=h',toks:=tk}:=by
 have hm:∀b,Mu b->b≠b0:=by rintro b m rfl;exact F.sep _ m hb
 have hk':∀b o,¬(C.also Mu).Bad b->s.heap.get? b=some o->h'.get? b=some o:=λb o q e=>hk b o (λz=>q (by rw[z];exact .inl hb)) e
 have hrd:∀{y w},Rd1 C.wa C.env s.heap y w->Rd1 C.wa C.env h' y w:=by
  rintro y w (⟨r1,r2,m',r3,r4⟩|⟨r1,c,r2,r3,r4⟩)
  ·exact .inl ⟨r1,r2,m',r3.at' λo e=>hk _ o (hm _ F.loc.1) e,r4⟩
  ·obtain⟨o,e1,e2⟩:=r4
   exact .inr ⟨r1,c,r2,r3,o,hk _ o (hm _ (F.cells _ _ r2).1) e1,e2⟩
 obtain⟨l1,m,l2⟩:=F.loc
 refine⟨F.dead0,λb q=>?_,F.kept.but hd0 hk,F.w.but (.inl hb) hw hk,⟨l1,m,l2.at' λo e=>hk _ o (hm _ l1) e⟩,λy c e=>?_,?_,F.inj,?_,F.sep,F.omu⟩
 ·obtain⟨o,e⟩:=F.alive b q;exact⟨o,hk b o (hm b q) e⟩
 ·obtain⟨c1,w,o,e1,e2⟩:=F.cells y c e
  exact⟨c1,w,o,hk _ o (hm _ c1) e1,e2⟩
 ·intro k y hy sl e
  have:=F.slot k y hy sl e
  cases sl with
  |none=>trivial
  |val V=>obtain⟨v,r1,r2⟩:=this;exact⟨v,hrd r1,r2.mono (λ_ q=>.inl q) hk'⟩
  |own zs=>
   obtain⟨r1,r2,us,r3,r4,r5⟩:=this
   exact⟨hrd r1,r2,us,by obtain⟨c,e'⟩:=r3;exact⟨c,hk _ _ (hm _ r2) e'⟩,r4.mono (λ_ q=>.inl q) hk',r5⟩
 ·intro b e q
  by_cases z:b=b0
  ·subst z;obtain⟨o,ho⟩:=ha;rw[ho]at e;exact nomatch e
  ·cases p:s.heap.get? b with
   |none=>exact F.live b p q
   |some o=>have:=hk b o z p;rw[this]at e;exact nomatch e
theorem Frm.leave{I:Addr}(F:Frm (C.also (·=I)) s0 Mu ad ρ σ s)(hb:¬C.Bad I)(hw:¬isW C.wa I)(hd0:s0.heap.get? I=none){h':Heap}{tk:Nat}(hk:∀b o,b≠I->s.heap.get? b=some o->h'.get? b=some o):
  Frm C s0 Mu ad ρ σ {s with heap:=h',toks:=tk}:=by
 have hm:∀b,Mu b->b≠I:=by rintro b m rfl;exact F.sep _ m (.inr rfl)
 have hk':∀b o,¬((C.also (·=I)).also Mu).Bad b->s.heap.get? b=some o->h'.get? b=some o:=λb o q e=>hk b o (λz=>q (.inl (.inr z))) e
 have hb':∀b,(C.also Mu).Bad b->((C.also (·=I)).also Mu).Bad b\/s.heap.get? b=none:=λb q=>.inl (q.imp .inl id)
 have hrd:∀{y w},Rd1 C.wa C.env s.heap y w->Rd1 C.wa C.env h' y w:=by
  rintro y w (⟨r1,r2,m',r3,r4⟩|⟨r1,c,r2,r3,r4⟩)
  ·exact .inl ⟨r1,r2,m',r3.at' λo e=>hk _ o (hm _ F.loc.1) e,r4⟩
  ·obtain⟨o,e1,e2⟩:=r4
   exact .inr ⟨r1,c,r2,r3,o,hk _ o (hm _ (F.cells _ _ r2).1) e1,e2⟩
 obtain⟨l1,m,l2⟩:=F.loc
 refine⟨F.dead0,λb q=>?_,F.kept.but hd0 hk,(F.w.but (.inl (.inr rfl)) hw hk).mono (λb q=>.inl (q.imp .inl id)) λ_ _ _ e=>e,⟨l1,m,l2.at' λo e=>hk _ o (hm _ l1) e⟩,λy c e=>?_,?_,F.inj,?_,λb q z=>F.sep b q (.inl z),F.omu⟩
 ·obtain⟨o,e⟩:=F.alive b q;exact⟨o,hk b o (hm b q) e⟩
 ·obtain⟨c1,w,o,e1,e2⟩:=F.cells y c e
  exact⟨c1,w,o,hk _ o (hm _ c1) e1,e2⟩
 ·intro k y hy sl e
  have:=F.slot k y hy sl e
  cases sl with
  |none=>trivial
  |val V=>obtain⟨v,r1,r2⟩:=this;exact⟨v,hrd r1,r2.mono hb' hk'⟩
  |own zs=>
   obtain⟨r1,r2,us,r3,r4,r5⟩:=this
   exact⟨hrd r1,r2,us,by obtain⟨c,e'⟩:=r3;exact⟨c,hk _ _ (hm _ r2) e'⟩,r4.mono hb' hk',r5⟩
 ·intro b e q
  by_cases z:b=I
  ·subst z;exact hb q
  ·cases p:s.heap.get? b with
   |none=>exact F.live b p (.inl q)
   |some o=>have:=hk b o z p;rw[this]at e;exact nomatch e
inductive Fv(C:Cx)(s0:Shared)(Mu:Addr->Prop)(s1:Shared)(I:Addr)(St:Nat->Heap->Prop)(xs:List V)(g:V->Env'->M (Fl×Env'))(fl:Fl)(ρ':Env')(σ':Option W)(n:Nat)(s':Shared):Prop
 |mk (i:Nat) (ρi:Env') (σi:Option W) (Mui:Addr->Prop) (adi:Nat->Addr) (hn:n=xs.length+1-i) (hi:i<=xs.length) (F:Frm (C.also (·=I)) s0 Mui adi ρi σi s') (ti:Step C.wa Mu s1 Mui s') (st:St i s'.heap) (hl:loopL g (xs.drop i) ρi σi=some ((fl,ρ'),σ')):Fv C s0 Mu s1 I St xs g fl ρ' σ' n s'
theorem for_core(X:Fx C s0)(hΦ:PhiAll C Φ){e:E}{target it:PySem.Expr}{body:List Stmt}{pos:Pos}{g:V->Env'->M (Fl×Env')}(h:IsE C.env.kindOf C.tb e it)
  (hturn:∀D,Fx (C.also D) s0->∀(v:Value) V ρ σ fl ρ' σ',g V ρ σ=some ((fl,ρ'),σ')->∀(s:Shared) Mu ad,Frm (C.also D) s0 Mu ad ρ σ s->Rep C.wa ((C.also D).also Mu).Bad s.heap v V->∀(E:Value->Shared->Prop)(Q:Flow->Shared->Prop),
   (∀f s' Mu' ad',Frm (C.also D) s0 Mu' ad' ρ' σ' s'->Step C.wa Mu s Mu' s'->FlOk C.wa ((C.also D).also Mu').Bad s'.heap fl f->Q f s')->
   wpAny (model C.prog C.w) C.A (assign target C.env v) (λ_ s2=>wpAny (model C.prog C.w) C.A (execs body C.env) Q E s2) E s):
  StOk C s0 (exec (.For target it body [] pos) C.env) (λρ=>(evE Φ ρ e).bind λx=>(M.lift (itemsV x)).bind λxs=>loopL g xs ρ):=by
 intro ρ σ fl ρ' σ' hf s Mu ad F E Q hQ
 refine cps λPP kk=>?_
 obtain⟨X0,σ1,h1,hf1⟩:=M.bind_some hf
 obtain⟨xs,σ2,h2,hf2⟩:=M.bind_some hf1
 obtain⟨hx,rfl⟩:=M.lift_some h2
 refine kk ?_
 clear kk
 refine wpAny_For (frm_ev X hΦ F h h1 λxv s1 F1 r1 k1=>?_) ((isE_set h).2 _)
 refine cps λPP kk=>?_
 obtain⟨I,hI⟩:∃n,s1.heap.objs.size=n:=⟨_,rfl⟩
 have hdI:s1.heap.get? I=none:=by rw[←hI];exact get_size _
 have hbI:¬C.Bad I:=F1.live I hdI
 have hwI:¬isW C.wa I:=λq=>hbI (X.ok.isBad I q)
 have hd0:s0.heap.get? I=none:=by
  cases q:s0.heap.get? I with
  |none=>rfl
  |some o=>rw[F1.kept.heap I o hwI q]at hdI;assumption
 have X':Fx (C.also (·=I)) s0:=X.also λb q=>by
  cases z:C.H.get? b with
  |none=>rfl
  |some o=>have:=X.keep0 b o z;rw[q,hd0]at this;exact Eq.symm (by assumption)
 refine kk ?_
 clear kk
 refine iter_ok_at hI (Bad':=λb=>((C.also (·=I)).also Mu).Bad b\/s1.heap.get? b=none) X.ok.hh r1 hx (.inr hdI) (λb q=>?_) λo St ho W hlen hst=>?_
 ·rcases q with((q|q)|q)|q
  ·exact .inl (.inl q)
  ·exact .inr (by rw[q];exact hdI)
  ·exact .inl (.inr q)
  ·exact .inr q
 have kp:Kept s1 {s1 with heap:=s1.heap.push o}:=Kept.push s1 o
 have F2:Frm (C.also (·=I)) s0 Mu ad ρ σ2 {s1 with heap:=s1.heap.push o}:=F1.enter X kp hdI ⟨o,by rw[←hI];exact Heap.get?_push_size _ ho⟩
 refine codeAny_forLoop_any (Fv C s0 Mu s1 I St xs g fl ρ' σ') ?_ (xs.length+1) ⟨0,ρ,σ2,Mu,ad,rfl,Nat.zero_le _,F2,.of (.of kp),hst _ λ_ _ e=>e,hf2⟩
 intro n s' V
 refine cps λPP kk=>?_
 obtain⟨i,ρi,σi,Mui,adi,hn,hi,Fi,ti,st,hl⟩:=V
 rcases idx_c hi with rfl|⟨V,hxi⟩
 ·rw[List.drop_length]at hl
  cases hl
  refine kk ?_
  refine W.done s' _ _ st λh' tk hk=>?_
  refine wpAny_execs_nil ?_
  refine hQ .next _ Mui adi (Fi.leave hbI hwI hd0 hk) ((Step.of k1).trans ⟨ti.1,λb o n m e=>hk b o (by rintro rfl;rw[hdI]at e;exact nomatch e) (ti.2 b o n m e)⟩ F1.aw) trivial
 ·have hilt:i<xs.length:=(List.getElem?_eq_some_iff.mp hxi).1
  rw[drop_i hxi]at hl
  obtain⟨⟨fl1,ρ1⟩,σ3,g1,g2⟩:=M.bind_some (show((g V ρi).bind λp=>match p.1 with
   |.next=>loopL g (xs.drop (i+1)) p.2
   |.ret v=>M.pure (.ret v,p.2)) σi=some ((fl,ρ'),σ')from hl)
  refine kk ?_
  clear kk
  refine W.item i s' V _ _ hxi st λv h' tk rv st' hk=>?_
  have Fa:=Fi.touch X' (b0:=I) (.inr rfl) hwI hd0 (tk:=tk) (W.alive _ _ st') hk
  have ta:Step C.wa Mu s1 Mui {s' with heap:=h',toks:=tk}:=⟨ti.1,λb o n m e=>hk b o (by rintro rfl;rw[hdI]at e;exact nomatch e) (ti.2 b o n m e)⟩
  refine lot_ok (W.kindI _ _ st') ?_
  refine hturn (·=I) X' v V ρi σi fl1 ρ1 σ3 g1 _ Mui adi Fa (rv.mono (λb q=>?_) λ_ _ _ e=>e) _ _ λf s3 Mu3 ad3 F3 t3 o3=>?_
  ·rcases q with q|q
   ·exact .inl (.inl (.inl q))
   ·rcases ti.1 b q with q|q
    ·exact .inl (.inl (.inr q))
    ·exact .inl (.inr q)
  ·have t:=ta.trans t3 Fa.aw
   cases fl1 with
   |next=>
    cases f with
    |next=>
     refine⟨xs.length+1-(i+1),by lia,i+1,ρ1,σ3,Mu3,ad3,rfl,hilt,F3,t,?_,g2⟩
     refine W.frame _ _ _ st' (λo e=>t3.2 I o hwI (λm=>Fa.sep I m (.inr rfl)) e) λb o n e=>t3.2 b o (λq=>n (.inl (.inl (.inl (X.ok.isBad b q))))) (λm=>n ?_) e
     rcases ti.1 b m with q|q
     ·exact .inl (.inr q)
     ·exact .inr q
    |_=>trivial
   |ret V1=>
    obtain⟨e',rfl⟩:=M.pure_some g2
    cases e'
    cases f with
    |ret v1=>
     refine hQ (.ret v1) s3 Mu3 ad3 (F3.leave hbI hwI hd0 (tk:=s3.toks) λ_ _ _ e=>e) ((Step.of k1).trans t F1.aw) ?_
     exact Rep.mono (λb q=>.inl (q.imp .inl id)) (λ_ _ _ e=>e) o3
    |_=>trivial
end
section
open Cx
variable{C:Cx}{s0:Shared}{Mu:Addr->Prop}{ad:Nat->Addr}{ρ:Env'}{σ σ':Option W}{s s':Shared}{Φ:Nat->List V->M V}
theorem pair_i{V:V}{p:Mine.V×Mine.V}(h:pairV V=some p):V=.tup [p.1,p.2]:=by
 cases V with
 |tup l=>cases l with
  |nil=>exact nomatch h
  |cons a r=>cases r with
   |nil=>exact nomatch h
   |cons b r=>cases r with
    |nil=>cases h;rfl
    |cons=>exact nomatch h
 |_=>exact nomatch h
theorem s_for(X:Fx C s0)(hΦ:PhiAll C Φ){i:Nat}{e:E}{x:Str}{px:Pos}{it:PySem.Expr}{body:List Stmt}{pos:Pos}{f:Env'->M (Fl×Env')}(hi:inTb C.tb i x=true)(h:IsE C.env.kindOf C.tb e it)
  (hb:∀D,Fx (C.also D) s0->StOk (C.also D) s0 (execs body C.env) f):
  StOk C s0 (exec (.For (.Name x px) it body [] pos) C.env) (λρ=>(evE Φ ρ e).bind λx=>(M.lift (itemsV x)).bind λxs=>loopL (λv ρ=>f (ρ.set i (.val v))) xs ρ):=by
 refine for_core X hΦ h λD X' v V ρ σ fl ρ' σ' hf s Mu ad F r E Q hQ=>?_
 refine wpAny_assign_Name (F.store X' (inTb_mem hi) (a:=ad i) (sl:=.val V) r (λxs q=>by exact nomatch q) λs2 ad2 F2 ⟨b0,m0,_,k0⟩ _=>?_)
 exact hb D X' _ σ fl ρ' σ' hf s2 Mu ad2 F2 E Q λf s3 Mu3 ad3 F3 t3=>hQ f s3 Mu3 ad3 F3 ((Step.but m0 k0).trans t3 F2.aw)
theorem s_for2(X:Fx C s0)(hΦ:PhiAll C Φ){i j:Nat}{e:E}{ts:List PySem.Expr}{k:Nat}{tp:Pos}{it:PySem.Expr}{body:List Stmt}{pos:Pos}{f:Env'->M (Fl×Env')}(hi:okN C.tb [i,j] ts=true)(h:IsE C.env.kindOf C.tb e it)
  (hb:∀D,Fx (C.also D) s0->StOk (C.also D) s0 (execs body C.env) f):
  StOk C s0 (exec (.For (.Tuple (dN [i,j] ts) k tp) it body [] pos) C.env) (λρ=>(evE Φ ρ e).bind λx=>(M.lift (itemsV x)).bind λxs=>loopL (λv ρ=>(M.lift (pairV v)).bind λp=>f ((ρ.set i (.val p.1)).set j (.val p.2))) xs ρ):=by
 refine for_core X hΦ h λD X' v V ρ σ fl ρ' σ' hf s Mu ad F r E Q hQ=>?_
 obtain⟨⟨p,q⟩,hp,hf2⟩:=M.bl hf
 cases pair_i hp
 obtain⟨a,vs,rfl,_,ha,r2⟩:=r.inv
 have e1:=dN_len (env:=C.env) [i,j] ts
 refine wpAny_assign_Tuple X.ok.hh ha.is (by rw[e1.1,←Array.length_toList,r2.length];rfl) e1.2 λh' hx=>?_
 have kk:Kept s {s with heap:=h'}:=Kept.mk' s λb o e=>hx b o (Nat.ne_of_lt (Heap.lt_size e)) e
 exact s_stores X' [i,j] ts vs.toList [p,q] ρ _ _ ad hi rfl (F.kept' X' kk) (r2.keep kk.heap) E _ λs2 ad2 F3 t3=>
  hb D X' _ σ fl ρ' σ' hf2 s2 Mu ad2 F3 E Q λf s4 Mu4 ad4 F4 t4=>hQ f s4 Mu4 ad4 F4 (((Step.of (.of kk)).trans t3 (F.kept' X' kk).aw).trans t4 F3.aw)
noncomputable def xS:Stmt->List PySem.Expr×List Stmt×List Stmt
 |.Assign ts v _=>(v::ts,[],[])
 |.AugAssign t _ v _=>([v,t],[],[])
 |.Expr v _=>([v],[],[])
 |.If v a b _=>([v],a,b)
 |.For t it b _ _=>([it,t],b,[])
 |.Return v _=>(v.toList,[],[])
 |_=>([],[],[])
noncomputable def sV(st:Stmt):PySem.Expr:=(xS st).1.headD xNone
noncomputable def sT(st:Stmt):PySem.Expr:=(xS st).1.tail.headD xNone
noncomputable def sNone:Stmt:=.Pass default
noncomputable def frzP:(s:Mine.S)->Option {i:Nat // s=.frz i}
 |.frz i=>some ⟨i,rfl⟩
 |_=>none
noncomputable def frzI(s:Mine.S):Option Nat:=match frzP s with
 |some i=>some i.1
 |none=>none
theorem frz_i{s:Mine.S}{i:Nat}(h:frzI s=some i):s=.frz i:=by
 unfold frzI at h
 cases e:frzP s with
 |none=>rw[e]at h;exact nomatch h
 |some i=>rw[e]at h;exact i.2.trans (congrArg Mine.S.frz (Option.some.inj h))
noncomputable def t3:(e:E)->Option {q:E×E×E // e=.tup (.cons q.1 (.cons q.2.1 (.cons q.2.2 .nil)))}
 |.tup (.cons a (.cons b (.cons c .nil)))=>some ⟨(a,b,c),rfl⟩
 |_=>none
noncomputable def is3:(l:List Nat)->Option {q:Nat×Nat×Nat // l=[q.1,q.2.1,q.2.2]}
 |[a,b,c]=>some ⟨(a,b,c),rfl⟩
 |_=>none
noncomputable def ntE:E->Bool
 |.tup _=>false
 |_=>true
noncomputable def swapOk(kd:Str->Option NameKind)(tb:Tb)(is:List Nat)(e:E)(t v:PySem.Expr):Bool:=match t3 e,is3 is with
 |some q,some p=>swap3 kd tb p.1.1 p.1.2.1 p.1.2.2 (xNm ((xKids t).headD xNone)) (xNm ((xKids t).tail.headD xNone)) (xNm ((xKids t).tail.tail.headD xNone)) ((xKids t).headD xNone).pos ((xKids t).tail.headD xNone).pos ((xKids t).tail.tail.headD xNone).pos
   [dE q.1.1 ((xKids v).headD xNone),dE q.1.2.1 ((xKids v).tail.headD xNone),dE q.1.2.2 ((xKids v).tail.tail.headD xNone)]
 |_,_=>false
mutual
noncomputable def dS:Mine.S->Stmt->Stmt
 |.asg _ e,st=>.Assign [xName (sT st)] (dE e (sV st)) st.pos
 |.asgC _ j elt iter conds,st=>.Assign [xName (sT st)] (dE (.comp j elt iter conds) (sV st)) st.pos
 |.cmpO _ j elt iter conds,st=>.Assign [xName (sT st)] (dE (.comp j elt iter conds) (sV st)) st.pos
 |.newO _,st=>.Assign [xName (sT st)] (.List [] (sV st).pos) st.pos
 |.lstO _ e,st=>.Assign [xName (sT st)] (.Call (.Name (Str.ofString "list") (xK (sV st) 0).pos) [dE e (xK (sV st) 1)] [] (sV st).pos) st.pos
 |.unp is e,st=>.Assign [.Tuple (dN is (xKids (sT st))) (xTok (sT st)) (sT st).pos] (dE e (sV st)) st.pos
 |.aug _ _ e,st=>.AugAssign (xName (sT st)) .Add (dE e (sV st)) st.pos
 |.setO _ k e,st=>.Assign [.Subscript (xName (xK (sT st) 0)) (dE k (xK (sT st) 1)) (sT st).pos] (dE e (sV st)) st.pos
 |.appO _ e,st=>.Expr (.Call (.Attribute (xName (xK (xK (sV st) 0) 0)) (Str.ofString "append") (xK (sV st) 0).pos) [dE e (xK (sV st) 1)] [] (sV st).pos) st.pos
 |.extO _ e,st=>.Expr (.Call (.Attribute (xName (xK (xK (sV st) 0) 0)) (Str.ofString "extend") (xK (sV st) 0).pos) [dE e (xK (sV st) 1)] [] (sV st).pos) st.pos
 |.wset _ f e,st=>.Assign [.Subscript (xName (xK (sT st) 0)) (xStr (fldName f) (xK (sT st) 1)) (sT st).pos] (dE e (sV st)) st.pos
 |.wapp _ e,st=>.Expr (.Call (.Attribute (.Subscript (xName (xK (xK (xK (sV st) 0) 0) 0)) (xStr (Str.ofString "rows") (xK (xK (xK (sV st) 0) 0) 1)) (xK (xK (sV st) 0) 0).pos) (Str.ofString "append") (xK (sV st) 0).pos) [dE e (xK (sV st) 1)] [] (sV st).pos) st.pos
 |.expr e,st=>.Expr (dE e (sV st)) st.pos
 |.ifS t a b,st=>.If (dE t (sV st)) (dSs a (xS st).2.1) (dSs b (xS st).2.2) st.pos
 |.forS _ e b,st=>.For (xName (sT st)) (dE e (sV st)) (dSs b (xS st).2.1) [] st.pos
 |.for2 i j e b,st=>.For (.Tuple (dN [i,j] (xKids (sT st))) (xTok (sT st)) (sT st).pos) (dE e (sV st)) (dSs b (xS st).2.1) [] st.pos
 |.ret e,st=>.Return (some (dE e (sV st))) st.pos
 |_,st=>st
noncomputable def dSs:Ss->List Stmt->List Stmt
 |.nil,_=>[]
 |.cons s r,l=>match frzI s with
  |some _=>dSs r l
  |none=>dS s (l.headD sNone)::dSs r l.tail
end
mutual
noncomputable def okS(kd:Str->Option NameKind)(tb:Tb):Mine.S->Stmt->Bool
 |.asg i e,st=>inTb tb i (xNm (sT st))&&(okE kd tb e (sV st)&&nc e)
 |.asgC i j elt iter conds,st=>inTb tb i (xNm (sT st))&&(swapB kd (xSc (sV st)) (xNm (sT st)) (sT st).pos (sV st).pos&&okE kd tb (.comp j elt iter conds) (sV st))
 |.cmpO i j elt iter conds,st=>inTb tb i (xNm (sT st))&&(swapB kd (xSc (sV st)) (xNm (sT st)) (sT st).pos (sV st).pos&&okE kd tb (.comp j elt iter conds) (sV st))
 |.newO i,st=>inTb tb i (xNm (sT st))
 |.lstO i e,st=>inTb tb i (xNm (sT st))&&(globOk kd (Str.ofString "list")&&okE kd tb e (xK (sV st) 1))
 |.unp is e,st=>okE kd tb e (sV st)&&((okN tb is (xKids (sT st))&&(nc e&&ntE e))||swapOk kd tb is e (sT st) (sV st))
 |.aug i op e,st=>match op with
  |.Add=>inTb tb i (xNm (sT st))&&okE kd tb e (sV st)
  |_=>false
 |.setO i k e,st=>(inTb tb i (xNm (xK (sT st) 0))&&xNm (xK (sT st) 0)!=dbg)&&(okE kd tb k (xK (sT st) 1)&&(okE kd tb e (sV st)&&nc e))
 |.appO i e,st=>(inTb tb i (xNm (xK (xK (sV st) 0) 0))&&xNm (xK (xK (sV st) 0) 0)!=dbg)&&(lnOk (sV st)&&okE kd tb e (xK (sV st) 1))
 |.extO i e,st=>(inTb tb i (xNm (xK (xK (sV st) 0) 0))&&xNm (xK (xK (sV st) 0) 0)!=dbg)&&(lnOk (sV st)&&okE kd tb e (xK (sV st) 1))
 |.wset i _ e,st=>(inTb tb i (xNm (xK (sT st) 0))&&xNm (xK (sT st) 0)!=dbg)&&(okE kd tb e (sV st)&&nc e)
 |.wapp i e,st=>(inTb tb i (xNm (xK (xK (xK (sV st) 0) 0) 0))&&xNm (xK (xK (xK (sV st) 0) 0) 0)!=dbg)&&(lnOk (sV st)&&okE kd tb e (xK (sV st) 1))
 |.expr e,st=>okE kd tb e (sV st)&&nc e
 |.ifS t a b,st=>okE kd tb t (sV st)&&(okSs kd tb a (xS st).2.1&&okSs kd tb b (xS st).2.2)
 |.forS i e b,st=>inTb tb i (xNm (sT st))&&(okE kd tb e (sV st)&&okSs kd tb b (xS st).2.1)
 |.for2 i j e b,st=>okN tb [i,j] (xKids (sT st))&&(okE kd tb e (sV st)&&okSs kd tb b (xS st).2.1)
 |.ret e,st=>okE kd tb e (sV st)
 |.raise,_=>true
 |_,_=>false
noncomputable def okSs(kd:Str->Option NameKind)(tb:Tb):Ss->List Stmt->Bool
 |.nil,_=>true
 |.cons s r,l=>match frzI s with
  |some i=>(tb.any λp=>p.1==i)&&okSs kd tb r l
  |none=>okS kd tb s (l.headD sNone)&&okSs kd tb r l.tail
end
end
section
open Cx
section
variable{Φ:Nat->List V->M V}{C:Cx}{s0:Shared}{ρ:Env'}{σ σ':Option W}
theorem StOk.of{x:Sem Flow}{f g:Env'->M (Fl×Env')}(h:StOk C s0 x f)(e:∀ρ σ r,g ρ σ=some r->f ρ σ=some r):StOk C s0 x g:=λρ σ fl ρ' σ' hf=>h ρ σ fl ρ' σ' (e _ _ _ hf)
theorem mkLst_i{xs:List V}{z:V}(h:mkLst xs=some z):z=.lst xs:=(ite_some h).2.symm
theorem comp_lst{j:Nat}{elt iter:E}{conds:Es}{V:V}(h:evE Φ ρ (.comp j elt iter conds) σ=some (V,σ')):∃xs,V=.lst xs:=
 let⟨_,_,_,h1⟩:=M.bind_some h
 let⟨_,_,_,h2⟩:=M.bind_some h1
 let⟨xs,_,_,h3⟩:=M.bind_some h2
 ⟨xs,mkLst_i (M.lift_some h3).1⟩
theorem asgC_of{m:M V}{g:Mine.V->M (Fl×Env')}{h:List V->M (Fl×Env')}(hm:∀{V σ'},m σ=some (V,σ')->∃xs,V=.lst xs)(hg:∀xs,g (.lst xs)=h xs){r:(Fl×Env')×Option W}(hr:m.bind g σ=some r):(m.bind λv=>(M.lift (lstV v)).bind h) σ=some r:=by
 refine cps λPP kk=>?_
 obtain⟨V,σ1,h1,h2⟩:=M.bind_some hr
 obtain⟨xs,rfl⟩:=hm h1
 refine kk ?_
 unfold M.bind
 rw[h1]
 exact(congrFun (hg xs) σ1).symm.trans h2
theorem nc_ok{e:E}(h:nc e=true)(x:PySem.Expr):notComp (dE e x)=true:=by cases e<;>first|rfl|exact ffx h
theorem nt_ok{e:E}(h:ntE e=true)(x:PySem.Expr):notTup (dE e x)=true:=by cases e<;>first|rfl|exact ffx h
noncomputable def PS(Φ:Nat->List V->M V)(s:Mine.S):Prop:=frzI s=none->∀(C:Cx)(s0:Shared),Fx C s0->PhiAll C Φ->∀st,okS C.env.kindOf C.tb s st=true->StOk C s0 (exec (dS s st) C.env) (λρ=>evS Φ ρ s)
noncomputable def PSs(Φ:Nat->List V->M V)(s:Ss):Prop:=∀(C:Cx)(s0:Shared),Fx C s0->PhiAll C Φ->∀st,okSs C.env.kindOf C.tb s st=true->StOk C s0 (execs (dSs s st) C.env) (λρ=>evSs Φ ρ s)
theorem e_asg(i:Nat)(e:E):PS Φ (.asg i e):=λ_ C s0 X hΦ st h=>have g:=and_i (and_i h).2;s_asg X hΦ (and_i h).1 ⟨_,g.1,rfl⟩ (nc_ok g.2 _)
theorem e_cmpO(i j:Nat)(elt iter:E)(conds:Es):PS Φ (.cmpO i j elt iter conds):=λ_ C s0 X hΦ st h=>
 have g:=and_i (and_i h).2
 have g1:=and_i g.2
 s_comp X hΦ true (and_i h).1 g.1 (and_i g1.1).1 (and_i g1.1).2 (and_i g1.2).1 (and_i g1.2).2
theorem e_asgC(i j:Nat)(elt iter:E)(conds:Es):PS Φ (.asgC i j elt iter conds):=λ_ C s0 X hΦ st h=>
 have g:=and_i (and_i h).2
 have g1:=and_i g.2
 (s_comp X hΦ false (and_i h).1 g.1 (and_i g1.1).1 (and_i g1.1).2 (and_i g1.2).1 (and_i g1.2).2).of λρ σ r hr=>asgC_of comp_lst (λ_=>rfl) hr
theorem e_newO(i:Nat):PS Φ (.newO i):=λ_ C s0 X hΦ st h=>s_newO X h
theorem e_lstO(i:Nat)(e:E):PS Φ (.lstO i e):=λ_ C s0 X hΦ st h=>have g:=and_i (and_i h).2;s_lstO X hΦ (and_i h).1 rfl g.1 ⟨_,g.2,rfl⟩
theorem e_unp(is:List Nat)(e:E):PS Φ (.unp is e):=λ_ C s0 X hΦ st h=>by
 have g:=and_i h
 cases hb:okN C.tb is (xKids (sT st))&&(nc e&&ntE e)with
 |true=>exact s_unp X hΦ (and_i hb).1 ⟨_,g.1,rfl⟩ (nc_ok (and_i (and_i hb).2).1 _) (nt_ok (and_i (and_i hb).2).2 _)
 |false=>
  have q:=g.2
  rw[hb,Bool.false_or]at q
  unfold swapOk at q
  cases h1:t3 e with
  |none=>rw[h1]at q;exact ffx q
  |some a=>
   cases h2:is3 is with
   |none=>rw[h1,h2]at q;exact ffx q
   |some b=>
    rw[h1,h2]at q
    obtain⟨a,rfl⟩:=a
    obtain⟨b,rfl⟩:=b
    exact s_unp3 X hΦ q ⟨_,g.1,rfl⟩
theorem e_aug(i:Nat)(op:Operator)(e:E):PS Φ (.aug i op e):=λ_ C s0 X hΦ st h=>match op,h with
 |.Add,h=>s_aug X hΦ (and_i h).1 ⟨_,(and_i h).2,rfl⟩
theorem e_setO(i:Nat)(k e:E):PS Φ (.setO i k e):=λ_ C s0 X hΦ st h=>
 have g:=and_i (and_i h).2
 s_setO X hΦ (and_i (and_i h).1).1 (and_i (and_i h).1).2 ⟨_,g.1,rfl⟩ ⟨_,(and_i g.2).1,rfl⟩ (nc_ok (and_i g.2).2 _)
theorem e_appO(i:Nat)(e:E):PS Φ (.appO i e):=λ_ C s0 X hΦ st h=>s_appO X hΦ (and_i (and_i h).1).1 (and_i (and_i h).1).2 rfl (and_i (and_i h).2).1 ⟨_,(and_i (and_i h).2).2,rfl⟩
theorem e_extO(i:Nat)(e:E):PS Φ (.extO i e):=λ_ C s0 X hΦ st h=>s_extO X hΦ (and_i (and_i h).1).1 (and_i (and_i h).1).2 rfl (and_i (and_i h).2).1 ⟨_,(and_i (and_i h).2).2,rfl⟩
theorem e_wset(i:Nat)(f:Fld)(e:E):PS Φ (.wset i f e):=λ_ C s0 X hΦ st h=>s_wset X hΦ (and_i (and_i h).1).1 (and_i (and_i h).1).2 rfl ⟨_,(and_i (and_i h).2).1,rfl⟩ (nc_ok (and_i (and_i h).2).2 _)
theorem e_wapp(i:Nat)(e:E):PS Φ (.wapp i e):=λ_ C s0 X hΦ st h=>s_wapp X hΦ (and_i (and_i h).1).1 (and_i (and_i h).1).2 rfl rfl (and_i (and_i h).2).1 ⟨_,(and_i (and_i h).2).2,rfl⟩
theorem e_expr(e:E):PS Φ (.expr e):=λ_ C s0 X hΦ st h=>s_expr X hΦ ⟨_,(and_i h).1,rfl⟩ (nc_ok (and_i h).2 _)
theorem e_ifS(t:E)(a b:Ss)(ha:PSs Φ a)(hb:PSs Φ b):PS Φ (.ifS t a b):=λ_ C s0 X hΦ st h=>
 have g:=and_i (and_i h).2
 s_if X hΦ ⟨_,(and_i h).1,rfl⟩ (ha C s0 X hΦ _ g.1) (hb C s0 X hΦ _ g.2)
theorem e_forS(i:Nat)(e:E)(b:Ss)(hb:PSs Φ b):PS Φ (.forS i e b):=λ_ C s0 X hΦ st h=>
 have g:=and_i (and_i h).2
 s_for X hΦ (and_i h).1 ⟨_,g.1,rfl⟩ λD X'=>hb (C.also D) s0 X' (λB a b=>hΦ B a b) _ g.2
theorem e_for2(i j:Nat)(e:E)(b:Ss)(hb:PSs Φ b):PS Φ (.for2 i j e b):=λ_ C s0 X hΦ st h=>
 have g:=and_i (and_i h).2
 s_for2 X hΦ (and_i h).1 ⟨_,g.1,rfl⟩ λD X'=>hb (C.also D) s0 X' (λB a b=>hΦ B a b) _ g.2
theorem e_ret(e:E):PS Φ (.ret e):=λ_ C s0 X hΦ st h=>s_ret X hΦ ⟨_,h,rfl⟩
theorem e_raise:PS Φ .raise:=λ_ C s0 X hΦ st h ρ σ fl ρ' σ' hf=>nomatch hf
theorem e_nil:PSs Φ .nil:=λC s0 X hΦ st h=>s_nil
theorem e_cons(s:Mine.S)(r:Ss)(hs:PS Φ s)(hr:PSs Φ r):PSs Φ (.cons s r):=λC s0 X hΦ l h=>by
 cases e:frzI s with
 |some i=>
  cases frz_i e
  exact s_frz X (and_i h).1 (hr C s0 X hΦ l (and_i h).2)
 |none=>
  have h':(okS C.env.kindOf C.tb s (l.headD sNone)&&okSs C.env.kindOf C.tb r l.tail)=true:=by
   have h1:(match frzI s with|some i=>(C.tb.any λp=>p.1==i)&&okSs C.env.kindOf C.tb r l|none=>okS C.env.kindOf C.tb s (l.headD sNone)&&okSs C.env.kindOf C.tb r l.tail)=true:=h
   rw[e]at h1;exact h1
  have e1:dSs (.cons s r) l=dS s (l.headD sNone)::dSs r l.tail:=by
   show(match frzI s with|some _=>dSs r l|none=>dS s (l.headD sNone)::dSs r l.tail)=_
   rw[e]
  rw[e1]
  exact s_cons (hs e C s0 X hΦ _ (and_i h').1) (hr C s0 X hΦ _ (and_i h').2)
theorem snd_s(s:Mine.S):PS Φ s:=Mine.S.rec (motive_1:=PS Φ) (motive_2:=PSs Φ) e_asg e_asgC e_cmpO e_newO e_lstO (λ_ h=>nomatch h) e_unp e_aug e_setO e_appO e_extO e_wset e_wapp (λ_ _ _ _ _ _ _ _ h=>nomatch h) (λ_ _ _ _ _ _ _ _ _ _ h=>nomatch h) e_expr e_ifS e_forS e_for2 e_ret e_raise e_nil e_cons s
theorem snd_body(s:Ss):PSs Φ s:=Ss.rec (motive_1:=PS Φ) (motive_2:=PSs Φ) e_asg e_asgC e_cmpO e_newO e_lstO (λ_ h=>nomatch h) e_unp e_aug e_setO e_appO e_extO e_wset e_wapp (λ_ _ _ _ _ _ _ _ h=>nomatch h) (λ_ _ _ _ _ _ _ _ _ _ h=>nomatch h) e_expr e_ifS e_forS e_for2 e_ret e_raise e_nil e_cons s
end
end
theorem zip_lookup_isSome{names:List Str}:∀{vs:List Value},names.length=vs.length->∀n∈names,((names.zip vs).lookup n).isSome=true:=by
 induction names with
 |nil=>intro vs _ n h;exact if_pos (by assumption)
 |cons a r ih=>
  intro vs hl n hn
  cases vs with
  |nil=>exact if_pos (by assumption)
  |cons v vs=>
   rw[List.zip_cons_cons,List.lookup_cons]
   cases e:n==a with
   |true=>rfl
   |false=>
    rcases List.mem_cons.mp hn with q|q
    ·subst q;simp at e
    ·exact ih (by simpa using hl) n q
theorem zip_filterMap{names:List Str}:∀{vs:List Value}(pre:List (Str×Value)),names.length=vs.length->names.Nodup->(∀n∈names,pre.lookup n=none)->(names.filterMap λn=>((pre++names.zip vs).lookup n).map (n,·))=names.zip vs:=by
 induction names with
 |nil=>intro vs pre _ _ _;rfl
 |cons a r ih=>
  intro vs pre hl hd hp
  cases vs with
  |nil=>exact nomatch hl
  |cons v vs=>
   have hd':=List.nodup_cons.mp hd
   have e1:(pre++(a,v)::r.zip vs).lookup a=some v:=by rw[List.lookup_append,hp a (List.mem_cons_self ..)];simp
   rw[List.zip_cons_cons,List.filterMap_cons,e1]
   simp only[Option.map_some]
   congr 1
   have e2:pre++(a,v)::r.zip vs=(pre++[(a,v)])++r.zip vs:=by simp
   rw[e2]
   refine ih (pre++[(a,v)]) (by simpa using hl) hd'.2 λn hn=>?_
   have:(n==a)=false:=by
    cases e:n==a with
    |false=>rfl
    |true=>
     have:n=a:=by simpa using e
     subst this;exact absurd hn hd'.1
   rw[List.lookup_append,hp n (List.mem_cons_of_mem _ hn)]
   simp[List.lookup_cons,this]
theorem bind_plain{name:Str}{params:Arguments}{body:List Stmt}{scope:Scope}{pm cd doc:Value}{args:List Value}
  (h1:params.posonlyargs=[])(h2:params.vararg=none)(h3:params.kwonlyargs=[])(h4:params.kwarg=none)(hl:(params.args.map (·.arg)).length=args.length)(hn:(params.args.map (·.arg)).Nodup):
  bindArgs (Calls.docDef name params body scope pm cd doc) ⟨args,[]⟩=pure ((params.args.map (·.arg)).zip args):=by
 generalize hN:params.args.map (·.arg)=N at hl hn
 have e1:=zip_filterMap (vs:=args) [] hl hn (λ_ _=>rfl)
 have e2:(N.filter λn=>((N.zip args).lookup n).isNone)=[]:=by
  rw[List.filter_eq_nil_iff]
  intro n hn'
  have:=zip_lookup_isSome hl n hn'
  cases q:(N.zip args).lookup n<;>simp_all
 unfold bindArgs
 simp only[Calls.docDef,h1,h2,h3,h4,hN,List.map_nil,List.nil_append,List.append_nil,List.forIn_nil]
 have e3:seqItems? Value.none=pure none:=rfl
 simp[e3,hl]
 simp only[List.drop_nil,List.length_nil,Nat.sub_zero,List.take_length,e2]
 simp only[List.nil_append]at e1
 rw[e1]
 rfl
section
open Cx
theorem bindL_other{kd:Str->Option NameKind}{x:Str}:∀{bs:List (Str×Value)}{m:Str->Option Value},(∀p∈bs,p.1≠x)->bindL kd bs m x=m x
 |[],_,_=>rfl
 |(n,v)::r,m,h=>by
  unfold bindL
  rw[bindL_other λp hp=>h p (List.mem_cons_of_mem _ hp)]
  have:x≠n:=Ne.symm (h (n,v) (List.mem_cons_self ..))
  split
  ·exact if_neg this
  ·rfl
theorem bindC_other{kd:Str->Option NameKind}{x:Str}:∀{bs:List (Str×Value)}{m:Str->Option Value},(∀p∈bs,p.1≠x)->bindC kd bs m x=m x
 |[],_,_=>rfl
 |(n,v)::r,m,h=>by
  unfold bindC
  rw[bindC_other λp hp=>h p (List.mem_cons_of_mem _ hp)]
  have:x≠n:=Ne.symm (h (n,v) (List.mem_cons_self ..))
  split
  ·rfl
  ·exact if_neg this
theorem zip_fst{names:List Str}{vs:List Value}{p:Str×Value}(h:p∈names.zip vs):p.1∈names:=(List.of_mem_zip (a:=p.1) (b:=p.2) h).1
theorem bindL_get{kd:Str->Option NameKind}{x:Str}(hk:kd x=some .local):∀{names:List Str}{vs:List Value}{m:Str->Option Value}{i:Nat}{v:Value},names.Nodup->names[i]?=some x->vs[i]?=some v->bindL kd (names.zip vs) m x=some v
 |[],_,_,i,_,_,h,_=>by simp at h
 |_::_,[],_,i,_,_,_,h=>by simp at h
 |n::r,w::vs,m,0,v,hd,h1,h2=>by
  simp at h1 h2;subst h1;subst h2
  rw[List.zip_cons_cons]
  unfold bindL
  rw[bindL_other,if_pos hk]
  ·exact if_pos rfl
  ·rintro p hp rfl
   exact(List.nodup_cons.mp hd).1 (zip_fst hp)
 |n::r,w::vs,m,i+1,v,hd,h1,h2=>by
  rw[List.zip_cons_cons]
  unfold bindL
  exact bindL_get hk (List.nodup_cons.mp hd).2 (by simpa using h1) (by simpa using h2)
theorem bindC_get{kd:Str->Option NameKind}{x:Str}(hk:kd x≠some .local):∀{names:List Str}{vs:List Value}{m:Str->Option Value}{i:Nat}{v:Value},names.Nodup->names[i]?=some x->vs[i]?=some v->bindC kd (names.zip vs) m x=some v
 |[],_,_,i,_,_,h,_=>by simp at h
 |_::_,[],_,i,_,_,_,h=>by simp at h
 |n::r,w::vs,m,0,v,hd,h1,h2=>by
  simp at h1 h2;subst h1;subst h2
  rw[List.zip_cons_cons]
  unfold bindC
  rw[bindC_other,if_neg hk]
  ·exact if_pos rfl
  ·rintro p hp rfl
   exact(List.nodup_cons.mp hd).1 (zip_fst hp)
 |n::r,w::vs,m,i+1,v,hd,h1,h2=>by
  rw[List.zip_cons_cons]
  unfold bindC
  exact bindC_get hk (List.nodup_cons.mp hd).2 (by simpa using h1) (by simpa using h2)
theorem cellsFrom_some{x:Str}:∀{names:List (Str×NameKind)}{n:Nat}{acc:List (Str×Addr)},names.lookup x=some .cell\/(acc.lookup x).isSome=true->((cellsFrom n names acc).lookup x).isSome=true
 |[],_,_,h=>h.elim (λq=>by simp at q) id
 |(y,k)::r,n,acc,h=>by
  unfold cellsFrom
  cases e:x==y with
  |true=>
   have hxy:x=y:=by simpa using e
   subst hxy
   split
   ·exact cellsFrom_some (.inr (by simp))
   ·rename_i hk
    refine cellsFrom_some (.inr (h.elim (λq=>?_) id))
    simp at q;subst q;simp at hk
  |false=>
   have e1:∀{β:Type}(b:β)(l:List (Str×β)),List.lookup x ((y,b)::l)=List.lookup x l:=λb l=>by simp[List.lookup_cons,e]
   rw[e1]at h
   split
   ·exact cellsFrom_some (h.imp id λq=>by rw[e1];exact q)
   ·exact cellsFrom_some h
noncomputable def fnTb(d:Fn):Tb:=(d.names.zipIdx.map λp=>(p.2,p.1)).filter λp=>p.2!=Str.empty
theorem fnTb_mem{d:Fn}{i:Nat}{x:Str}(h:(i,x)∈fnTb d):d.names[i]?=some x:=by
 unfold fnTb at h
 obtain⟨h,_⟩:=List.mem_filter.mp h
 obtain⟨⟨y,j⟩,h1,h2⟩:=List.mem_map.mp h
 cases h2
 have:=List.mem_zipIdx_iff_getElem?.mp h1
 trivial
noncomputable def tbOk(kd:Str->Option NameKind)(tb:Tb):Bool:=tb.all λp=>(kd p.2==some .local||kd p.2==some .cell)&&tb.all λq=>(p.1==q.1)==(p.2==q.2)
noncomputable def nodupB:List Str->Bool
 |[]=>true
 |x::r=>!r.contains x&&nodupB r
theorem nodupB_ok:∀{l:List Str},nodupB l=true->l.Nodup
 |[],_=>List.nodup_nil
 |x::r,h=>List.nodup_cons.mpr ⟨λq=>Bool.noConfusion ((notT (and_i h).1).symm.trans (List.contains_iff_mem.mpr q)),nodupB_ok (and_i h).2⟩
noncomputable def fnHead(d:Fn)(params:Arguments)(scope:Scope):Bool:=
 ((params.posonlyargs.isEmpty&&params.vararg.isNone)&&(params.kwonlyargs.isEmpty&&params.kwarg.isNone))&&((((params.args.map (·.arg))==d.names.take d.np)&&(nodupB (d.names.take d.np)&&Nat.ble d.np d.names.length))&&
 (((scope.kind==.function)&&(!scope.isCoroutine&&!scope.isGenerator))&&(tbOk (λy=>scope.names.lookup y) (fnTb d)&&((d.names.take d.np).all λx=>x !=Str.empty))))
structure FnOk(d:Fn)(params:Arguments)(scope:Scope):Prop where
 pos:params.posonlyargs=[]
 var:params.vararg=none
 kwo:params.kwonlyargs=[]
 kw:params.kwarg=none
 args:params.args.map (·.arg)=d.names.take d.np
 nodup:(d.names.take d.np).Nodup
 le:d.np<=d.names.length
 kind:scope.kind=.function
 co:scope.isCoroutine=false
 gen:scope.isGenerator=false
 kinds:∀p∈fnTb d,scope.names.lookup p.2=some .local\/scope.names.lookup p.2=some .cell
 pair:∀p∈fnTb d,∀q∈fnTb d,(p.1==q.1)=(p.2==q.2)
 ne:∀x∈d.names.take d.np,(x !=Str.empty)=true
theorem fnHead_ok{d:Fn}{params:Arguments}{scope:Scope}(h:fnHead d params scope=true):FnOk d params scope:=
 have a:=and_i (and_i h).1
 have h:=and_i (and_i h).2
 have b:=and_i h.1
 have h:=and_i h.2
 have c:=and_i h.1
 have h:=and_i h.2
 have hp:∀p∈fnTb d,_:=λp hp=>and_i (List.all_eq_true.mp h.1 p hp)
 {pos:=List.isEmpty_iff.mp (and_i a.1).1,var:=Option.isNone_iff_eq_none.mp (and_i a.1).2,kwo:=List.isEmpty_iff.mp (and_i a.2).1,kw:=Option.isNone_iff_eq_none.mp (and_i a.2).2
  args:=eq_of_beq b.1,nodup:=nodupB_ok (and_i b.2).1,le:=Nat.le_of_ble_eq_true (and_i b.2).2,kind:=eq_of_beq c.1,co:=notT (and_i c.2).1,gen:=notT (and_i c.2).2
  kinds:=λp q=>(Bool.or_eq_true_iff.mp (hp p q).1).imp eq_of_beq eq_of_beq,pair:=λp q r s=>eq_of_beq (List.all_eq_true.mp (hp p q).2 r s),ne:=List.all_eq_true.mp h.2}
inductive FnAt(mg:Str->Option Value)(H:Heap)(d:Fn):Prop
 |mk (params:Arguments) (body:List Stmt) (scope:Scope) (a:Addr) (o:Obj) (pm code doc:Value) (K:FnOk d params scope) (hok:okSs (λy=>scope.names.lookup y) (fnTb d) d.body body=true) (hde:dSs d.body body=body) (hmg:mg d.name=some (.ref a)) (ha:H.get? a=some o)
   (hdat:o.data=.func (Calls.docDef d.name params body scope pm code doc)) (hcode:H.CodeRec code d.name):FnAt mg H d
structure Fns(prog:Program)(w:World)(mg mb:Str->Option Value)(H:Heap):Prop where
 base:Base prog w H mg mb
 nolimit:H.NoLimit
 fn:∀f d,fns f=some d->FnAt mg H d
theorem frm_start{prog:Program}{w:World}{A:Around}{mg mb:Str->Option Value}{H:Heap}{wa:Option (Addr×Option Addr)}{Bad:Addr->Prop}(Y:Fns prog w mg mb H)(hh:A.handled=none)(hu:A.units+700<cLine)
  (hB:∀b,isW wa b->Bad b)(hBH:∀b,Bad b->H.get? b=none){d:Fn}{params:Arguments}{scope:Scope}(hc:FnOk d params scope){a:Addr}{cd:Value}{s:Shared}(hk:∀b o,H.get? b=some o->s.heap.get? b=some o)
  (hl:∀b,s.heap.get? b=none->¬Bad b){σ:Option W}(hw:WOk prog w wa Bad s.heap σ){vs:List Value}{h₁:Heap}{tk:Nat}
  (F:Fr s.heap s.heap.objs.size h₁ (bindL (envOfC d.name scope s.heap.objs.size a cd).kindOf ((d.names.take d.np).zip vs) λ_=>none))
  (X:Cl s.heap.objs.size (cellsFrom (s.heap.objs.size+1) scope.names []) h₁ (bindC (envOfC d.name scope s.heap.objs.size a cd).kindOf ((d.names.take d.np).zip vs) λ_=>none)){sls:List Slot}(hlen:sls.length=d.np)(hvl:vs.length=d.np)
  (hsl:∀(i:Nat)(sl:Slot),sls[i]?=some sl->∃v:Value,vs[i]?=some v/\(sl=Slot.none\/∃V,sl=Slot.val V/\Rep wa Bad s.heap v V)){E:Env'}{hE:E=sls++List.replicate (d.names.length-d.np) Slot.none}:
  let C:Cx:={prog:=prog,w:=w,A:=A,env:=envOfC d.name scope s.heap.objs.size a cd,wa:=wa,Bad:=Bad,tb:=fnTb d,ρ:=[],H:=H,mg:=mg,mb:=mb}
  Fx C s/\Frm C s (λb=>b=s.heap.objs.size\/∃x,(cellsFrom (s.heap.objs.size+1) scope.names []).lookup x=some b) (λ_=>0) E σ {s with heap:=h₁,toks:=tk}:=by
 intro C
 have hcell:∀x,C.env.kindOf x=some .cell->(C.env.cells.lookup x).isSome=true:=λx hx=>cellsFrom_some (.inl hx)
 have hkinds:∀i x,(i,x)∈fnTb d->C.env.kindOf x=some .local\/C.env.kindOf x=some .cell:=λi x h=>hc.kinds _ h
 have FX:Fx C s:=by
  refine⟨⟨hh,hu,hc.kind,rfl,rfl,hB,hBH,hcell,Y.base⟩,hk,hkinds,λi x y h1 h2=>?_,λi k x h1 h2=>?_,λx y c h1 h2=>name_of_addr X.apart (PySem.mem_of_lookup h1) (PySem.mem_of_lookup h2)⟩
  ·exact eq_of_beq ((hc.pair _ h1 _ h2).symm.trans (beq_self_eq_true i))
  ·exact eq_of_beq ((hc.pair _ h1 _ h2).trans (beq_self_eq_true x))
 refine⟨FX,?_⟩
 have dead:∀b,(b=s.heap.objs.size\/∃x,(cellsFrom (s.heap.objs.size+1) scope.names []).lookup x=some b)->s.heap.get? b=none:=by
  rintro b (q|⟨x,q⟩)
  ·rw[q];exact get_size _
  ·exact dead_ge (Nat.le_of_lt (X.above x b (PySem.mem_of_lookup q)))
 have hb:∀b,(C.also λb=>b=s.heap.objs.size\/∃x,(cellsFrom (s.heap.objs.size+1) scope.names []).lookup x=some b).Bad b->Bad b\/s.heap.get? b=none:=λb q=>q.imp id (dead b)
 refine⟨dead,?_,.of (Kept.mk' s F.keep),hw.mono hb λb o _ e=>F.keep b o e,⟨.inl rfl,_,F.ns⟩,λx c e=>⟨.inr ⟨x,e⟩,_,X.cell x c e⟩,?_,?_,?_,?_,?_⟩
 ·rintro b (q|⟨x,q⟩)
  ·rw[q];exact NsAlive F.ns
  ·obtain⟨o,ho,_⟩:=X.cell x b q;exact⟨o,ho⟩
 ·intro i x hx sl e
  subst hE
  rw[List.getElem?_append]at e
  split at e
  ·rename_i hi
   obtain⟨v,hv,q⟩:=hsl i sl e
   rcases q with rfl|⟨V,rfl,r⟩
   ·trivial
   ·have hn:(d.names.take d.np)[i]?=some x:=by
     rw[List.getElem?_take,if_pos (by lia)];exact fnTb_mem hx
    refine⟨v,?_,r.mono hb λb o _ e=>F.keep b o e⟩
    rcases hkinds i x hx with hl'|hc'
    ·exact .inl ⟨hl',λq=>by have z:=hB _ q;exact hl _ (get_size _) z,_,F.ns,bindL_get hl' (hc.nodup) hn hv⟩
    ·obtain⟨c,e⟩:=Option.isSome_iff_exists.mp (hcell x hc')
     refine .inr ⟨hc',c,e,λq=>hl _ (dead c (.inr ⟨x,e⟩)) (hB _ q),?_⟩
     have:=X.cell x c e
     rw[bindC_get (by rw[hc'];exact nofun) (hc.nodup) hn hv]at this
     exact this
  ·rw[List.getElem?_replicate]at e
   split at e
   ·cases e;trivial
   ·exact nomatch e
 ·intro i k xs ys e
  subst hE
  exfalso
  rw[List.getElem?_append]at e
  split at e
  ·obtain⟨v,hv,q⟩:=hsl i _ e
   rcases q with q|⟨V,q,_⟩<;>exact nomatch q
  ·rw[List.getElem?_replicate]at e
   split at e<;>exact nomatch e
 ·intro b e q
  refine hl b ?_ q
  cases p:s.heap.get? b with
  |none=>rfl
  |some o=>rw[F.keep b o p]at e;assumption
 ·intro b q
  exact hl b (dead b q)
 ·intro i xs e
  refine cps λPP kk=>?_
  subst hE
  refine kk ?_
  exfalso
  rw[List.getElem?_append]at e
  split at e
  ·refine cps λPP kk=>?_
   obtain⟨v,hv,q⟩:=hsl i _ e
   refine kk ?_
   rcases q with q|⟨V,q,_⟩<;>exact nomatch q
  ·rw[List.getElem?_replicate]at e
   split at e<;>exact nomatch e
end
section
open Cx
theorem FnOk.mem{d:Fn}{params:Arguments}{scope:Scope}(K:FnOk d params scope)(x:Str)(hx:x∈d.names.take d.np):scope.names.lookup x=some .local\/scope.names.lookup x=some .cell:=by
 obtain⟨i,hi⟩:=List.getElem?_of_mem hx
 refine K.kinds (i,x) (List.mem_filter.mpr ⟨List.mem_map.mpr ⟨(x,i),List.mem_zipIdx_iff_getElem?.mpr ?_,rfl⟩,K.ne x hx⟩)
 rw[List.getElem?_take]at hi
 by_cases q:i<d.np
 ·rw[if_pos q]at hi;exact hi
 ·rw[if_neg q]at hi;exact nomatch hi
theorem slots_ok{wa:Option (Addr×Option Addr)}{Bad:Addr->Prop}{h:Heap}{vs:List Value}{xs:List V}(r:Reps wa Bad h vs xs)(i:Nat)(sl:Slot)(e:(xs.map Slot.val)[i]?=some sl):∃v:Value,vs[i]?=some v/\(sl=Slot.none\/∃V,sl=Slot.val V/\Rep wa Bad h v V):=by
 rw[List.getElem?_map]at e
 refine cps λPP kk=>?_
 obtain⟨x,q,rfl⟩:=Option.map_eq_some_iff.mp e
 obtain⟨v,hv,rv⟩:=r.get q
 refine kk ?_
 exact⟨v,hv,.inr ⟨x,rfl,rv⟩⟩
theorem ret_ok{wa:Option (Addr×Option Addr)}{Bad Bad':Addr->Prop}{h:Heap}(hb:∀b,Bad b->Bad' b){fl:Fl}{f:Flow}{V:V}{σ σ':Option W}(o:FlOk wa Bad' h fl f)(g:(match fl with
    |.ret v=>M.pure v
    |.next=>M.pure .none) σ=some (V,σ')):σ'=σ/\((f=.next/\Rep wa Bad h .none V)\/∃v,f=.ret v/\Rep wa Bad h v V):=by
 cases fl with
 |next=>cases f with
  |next=>cases g;exact⟨rfl,.inl ⟨rfl,.none⟩⟩
  |_=>exact o.elim
 |ret W=>cases f with
  |ret v=>cases g;exact⟨rfl,.inr ⟨v,rfl,Rep.mono (λb q=>.inl (hb b q)) (λ_ _ _ e=>e) o⟩⟩
  |_=>exact o.elim
theorem run_zero(f:Nat)(xs:List V)(σ:Option W):run fns 0 f xs σ=none:=rfl
theorem run_succ(n f:Nat)(xs:List V){d:Fn}(hd:fns f=some d):run fns (n+1) f xs=if xs.length=d.np then(evSs (run fns n) (xs.map Slot.val++List.replicate (d.names.length-d.np) Slot.none) d.body).bind λp=>match p.1 with
    |.ret v=>M.pure v
    |.next=>M.pure .none
   else M.fail:=by
 rw[run,hd]<;>rfl
theorem run_ok(n:Nat):∀C:Cx,C.A.handled=none->C.A.depth+n<=recursionLimit->C.A.units+3*n+700<cLine->Fns C.prog C.w C.mg C.mb C.H->PhiAll C (run fns n):=by
 induction n with
 |zero=>
  intro C hh hdep hu Y Bad hB hBH f d hd
  obtain⟨params,body,scope,a,o,pm,code,doc,K,hok,hde,hmg,ha,hdat,hcode⟩:=Y.fn f d hd
  refine⟨a,o,_,hmg,ha,hdat,?_⟩
  intro xs σ V σ' hf
  rw[run_zero]at hf;exact nomatch hf
 |succ n ih=>
  intro C hh hdep hu Y Bad hB hBH f d hd
  obtain⟨params,body,scope,a,o,pm,code,doc,K,hok,hde,hmg,ha,hdat,hcode⟩:=Y.fn f d hd
  refine⟨a,o,_,hmg,ha,hdat,?_⟩
  intro xs σ V σ' hf s vs hk hl hw r E Q hQ
  rw[run_succ n f xs hd]at hf
  split at hf
  ·rename_i hlen
   obtain⟨⟨fl,ρ'⟩,σ1,g1,g2⟩:=M.bind_some hf
   have hvl:vs.length=d.np:=by rw[r.length];exact hlen
   have hbind:=bind_plain (name:=d.name) (params:=params) (body:=body) (scope:=scope) (pm:=pm) (cd:=code) (doc:=doc) (args:=vs) K.pos K.var K.kwo K.kw
    (by rw[K.args,List.length_take,Nat.min_eq_left K.le];exact hvl.symm) (by rw[K.args];exact K.nodup)
   rw[K.args]at hbind
   refine wpAny_call (call_cells_ret (show C.A.depth<recursionLimit by lia) (hk _ _ ha) hdat (Y.nolimit.keeps hk) (hcode.keeps hk) hbind (λx hx=>?_) (λh₁ tk F X=>?_) K.co K.gen K.kind)
   ·exact(K.mem x.1 (zip_fst hx)).imp id λq=>⟨q,cellsFrom_some (.inl q)⟩
   ·obtain⟨FX,FR⟩:=frm_start (E:=xs.map Slot.val++List.replicate (d.names.length-d.np) Slot.none) (A:=C.A.deeper (envOfC d.name scope s.heap.objs.size a code)) (wa:=C.wa) (Bad:=Bad) (sls:=xs.map Slot.val) (tk:=tk) Y hh
     (show C.A.units+3+700<cLine by lia) hB hBH K hk hl hw F X (by rw[List.length_map,hlen]) hvl (slots_ok r) (hE:=rfl)
    refine(hde▸snd_body d.body _ _ FX (ih _ hh (show C.A.depth+1+n<=recursionLimit by lia) (show C.A.units+3+3*n+700<cLine by lia) Y) body hok:) _ σ fl ρ' σ1 g1 _ _ _ FR _ _ λf1 s1 Mu1 ad1 F1 t1 o1=>?_
    have hw1:WOk C.prog C.w C.wa Bad s1.heap σ1:=F1.w.mono (λb q=>.inl (.inl q)) λ_ _ _ e=>e
    obtain⟨rfl,⟨rfl,q⟩|⟨v,rfl,q⟩⟩:=ret_ok (Bad:=Bad) (λb q=>.inl q) o1 g2
    ·exact hQ _ s1 F1.kept q hw1
    ·exact hQ _ s1 F1.kept q hw1
  ·trivial
end
noncomputable def tokOf:Value->Tok
 |.int _ t=>t
 |.str _ t=>t
 |_=>0
noncomputable def adOf:Value->Addr
 |.ref a=>a
 |_=>0
noncomputable def tupObj(vs:Array Value)(n:Nat):Obj:={cls:=.type "tuple",dict:=none,data:=.seq vs n,slots:=#[]}
noncomputable def dicObj(es:Array DictEntry)(n:Nat):Obj:={cls:=.type "dict",dict:=none,data:=.dict es n,slots:=#[]}
noncomputable def vTupO:(o:Obj)->Option {q:Array Value×Nat // o=tupObj q.1 q.2}
 |⟨c,none,.seq vs n,⟨[]⟩⟩=>if h:c=.type "tuple" then some ⟨(vs,n),by rw[h];rfl⟩else none
 |_=>none
noncomputable def vDicO:(o:Obj)->Option {q:Array DictEntry×Nat // o=dicObj q.1 q.2}
 |⟨c,none,.dict vs n,⟨[]⟩⟩=>if h:c=.type "dict" then some ⟨(vs,n),by rw[h];rfl⟩else none
 |_=>none
noncomputable def seqK(K:Frag)(a:Addr):Option (List Value):=match K.lookup a with
 |some o=>(vTupO o).map λq=>q.1.1.toList
 |none=>none
noncomputable def seqIn(K:Frag)(a:Addr):List Value:=(seqK K a).getD []
noncomputable def seqB(K:Frag)(a:Addr):Bool:=(seqK K a).isSome
mutual
noncomputable def repIn(K:Frag):V->Value->Bool
 |.none,v=>decide (v=.none)
 |.bool b,v=>decide (v=.bool b)
 |.int i,v=>decide (v=.int i (tokOf v))
 |.str x,v=>decide (v=.str x (tokOf v))
 |.tup xs,v=>decide (v=.ref (adOf v))&&(seqB K (adOf v)&&repsIn K xs (seqIn K (adOf v)))
 |_,_=>false
noncomputable def repsIn(K:Frag):List V->List Value->Bool
 |[],l=>l.isEmpty
 |x::r,l=>(!l.isEmpty)&&(repIn K x (l.headD .none)&&repsIn K r l.tail)
end
theorem seqIn_ok{K:Frag}{a:Addr}{h:Heap}(e:seqB K a=true)(hK:K.In h):∃vs n,h.get? a=some (tupObj vs n)/\seqIn K a=vs.toList:=by
 obtain⟨l,hl⟩:=Option.isSome_iff_exists.mp e
 unfold seqIn
 rw[hl]
 unfold seqK at hl
 cases h1:K.lookup a with
 |none=>rw[h1]at hl;exact nomatch hl
 |some o=>
  rw[h1]at hl
  obtain⟨q,_,rfl⟩:=Option.map_eq_some_iff.mp hl
  exact⟨_,_,q.2▸hK a o h1,rfl⟩
theorem cons_of{α:Type}{d:α}:∀{l:List α},(!l.isEmpty)=true->l=l.headD d::l.tail
 |_::_,_=>rfl
mutual
theorem repIn_ok{K:Frag}{H h':Heap}{wa:Option (Addr×Option Addr)}{Bad:Addr->Prop}(hK:K.In H)(hk:∀b o,H.get? b=some o->h'.get? b=some o)(hB:∀b,Bad b->H.get? b=none):
  ∀(x:V)(v:Value),repIn K x v=true->Rep wa Bad h' v x
 |.none,v,h=>by rw[of_decide_eq_true h];exact .none
 |.bool a,v,h=>by rw[of_decide_eq_true h];exact .bool _
 |.int a,v,h=>by rw[of_decide_eq_true h];exact .int _ _
 |.str a,v,h=>by rw[of_decide_eq_true h];exact .str _ _
 |.tup xs,v,h=>by
  obtain⟨vs,n,ho,e⟩:=seqIn_ok (and_i (and_i h).2).1 hK
  rw[of_decide_eq_true (and_i h).1]
  exact .tup (λq=>nomatch (hB _ q).symm.trans ho) ⟨n,hk _ _ ho⟩ (e▸repsIn_ok hK hk hB xs _ (and_i (and_i h).2).2)
 |.lst _,v,h=>nomatch h
 |.rng _,v,h=>nomatch h
 |.w,v,h=>nomatch h
theorem repsIn_ok{K:Frag}{H h':Heap}{wa:Option (Addr×Option Addr)}{Bad:Addr->Prop}(hK:K.In H)(hk:∀b o,H.get? b=some o->h'.get? b=some o)(hB:∀b,Bad b->H.get? b=none):
  ∀(xs:List V)(vs:List Value),repsIn K xs vs=true->Reps wa Bad h' vs xs
 |[],vs,h=>by rw[List.isEmpty_iff.mp h];exact .nil
 |x::r,vs,h=>by
  rw[cons_of (d:=.none) (and_i h).1]
  exact .cons (repIn_ok hK hk hB x _ (and_i (and_i h).2).1) (repsIn_ok hK hk hB r _ (and_i (and_i h).2).2)
end
noncomputable def entsIn(K:Frag):List (Int×V)->List DictEntry->Bool
 |[],l=>l.isEmpty
 |p::r,l=>(!l.isEmpty)&&((decide ((l.headD default).key=.int p.1 (tokOf (l.headD default).key))&&(l.headD default).hash==hashInt p.1)&&(repIn K p.2 (l.headD default).val&&entsIn K r l.tail))
noncomputable def dicK(K:Frag)(a:Addr):Option (List DictEntry):=match K.lookup a with
 |some o=>(vDicO o).map λq=>q.1.1.toList
 |none=>none
noncomputable def dictIn(K:Frag)(d:List (Int×V))(a:Addr):Bool:=(dicK K a).isSome&&entsIn K d ((dicK K a).getD [])
theorem entsIn_ok{prog:Program}{w:World}{K:Frag}:∀(d:List (Int×V))(es:List DictEntry),entsIn K d es=true->
  (∀e∈es,∃k,(intKind prog w).is k e.key=true/\e.hash=(intKind prog w).hash k)/\
  ∀i,(∀x,dictGet d i=some x->∃v,(es.find? λe=>(intKind prog w).is i e.key).map (·.val)=some v/\repIn K x v=true)/\(dictGet d i=none->(es.find? λe=>(intKind prog w).is i e.key).map (·.val)=none)
 |[],es,h=>by rw[List.isEmpty_iff.mp h];exact⟨λ_ h=>(nomatch h),λi=>⟨λ_ h=>(nomatch h),λ_=>rfl⟩⟩
 |(i,x)::r,es,h=>by
  have h1:=and_i (and_i h).2
  have h2:=and_i h1.1
  have h3:=and_i h1.2
  obtain⟨g1,g2⟩:=entsIn_ok (prog:=prog) (w:=w) r es.tail h3.2
  rw[cons_of (d:=default) (and_i h).1]
  have hk:(intKind prog w).is i (es.headD default).key=true:=by rw[of_decide_eq_true h2.1];exact intKind_is _ _ _ _
  refine⟨λe he=>(List.mem_cons.mp he).elim (λq=>q▸⟨i,hk,eq_of_beq h2.2⟩) (g1 e),λk=>?_⟩
  have hf:=h3.1
  clear h h1 h2 h3 g1
  unfold dictGet
  by_cases e:i=k
  ·rw[if_pos e,List.find?_cons_of_pos (p:=λe:DictEntry=>(intKind prog w).is k e.key) (e▸hk)]
   exact⟨λy hy=>Option.some.inj hy▸⟨_,rfl,hf⟩,λq=>nomatch q⟩
  ·rw[if_neg e,List.find?_cons_of_neg (p:=λe:DictEntry=>(intKind prog w).is k e.key) λq=>e ((intKind prog w).inj _ _ _ hk q)]
   exact g2 k
theorem dictIn_ok{prog:Program}{w:World}{K:Frag}{H:Heap}(hK:K.In H){d:List (Int×V)}{a:Addr}(h:dictIn K d a=true):∃f,H.MapOf (intKind prog w) a f/\
  ∀i,(∀v,dictGet d i=some v->∃u,f i=some u/\∀(h':Heap) wa Bad,(∀b o,H.get? b=some o->h'.get? b=some o)->(∀b,Bad b->H.get? b=none)->Rep wa Bad h' u v)/\(dictGet d i=none->f i=none):=by
 obtain⟨h1,h2⟩:=and_i (show((dicK K a).isSome&&entsIn K d ((dicK K a).getD []))=true from h)
 obtain⟨l,hl⟩:=Option.isSome_iff_exists.mp h1
 rw[hl]at h2
 have:∃es ep,K.lookup a=some (dicObj es ep)/\l=es.toList:=by
  unfold dicK at hl
  cases h1:K.lookup a with
  |none=>rw[h1]at hl;exact nomatch hl
  |some o=>
   rw[h1]at hl
   obtain⟨q,_,rfl⟩:=Option.map_eq_some_iff.mp hl
   exact⟨_,_,congrArg some q.2,rfl⟩
 refine cps λPP kk=>?_
 obtain⟨es,ep,ho,rfl⟩:=this
 obtain⟨g1,g2⟩:=entsIn_ok (prog:=prog) (w:=w) d es.toList h2
 refine kk ?_
 have e1:∀i,findBy (intKind prog w).is es i=(es.toList.find? λe=>(intKind prog w).is i e.key).map (·.val):=λi=>by unfold findBy;rw[Array.find?_toList]
 refine⟨λi=>findBy (intKind prog w).is es i,⟨_,es,_,hK a _ ho,⟨rfl,rfl,rfl⟩,rfl,λe he=>g1 e (Array.mem_toList_iff.mpr he),λ_=>rfl⟩,λi=>?_⟩
 dsimp only
 rw[e1 i]
 exact⟨λv hv=>let⟨u,hu,r⟩:=(g2 i).1 v hv;⟨u,hu,λh' wa Bad hk hB=>repIn_ok hK hk hB v u r⟩,(g2 i).2⟩
section
set_option maxRecDepth 100000
noncomputable def esOf(K:Frag):Option (Array DictEntry):=match K.lookup mainGlobals with
 |some o=>match o.data with
  |.dict es _=>some es
  |_=>none
 |none=>none
noncomputable def gOf(es:Array DictEntry)(x:Str):Value:=(nsFind es x).getD .none
noncomputable def constChk(es:Array DictEntry)(K:Frag):Bool:=constTab.all λp=>(nsFind es p.1).isSome&&repIn K p.2 (gOf es p.1)
noncomputable def dictChk(es:Array DictEntry)(K:Frag):Bool:=dictTab.all λp=>decide (nsFind es p.1=some (.ref (adOf (gOf es p.1))))&&(dictIn K p.2 (adOf (gOf es p.1))&&!(adOf (gOf es p.1)==sysModules))
noncomputable def bifs:List Bif:=[.len,.tuple,.abs,.min,.max,.range]
noncomputable def freeNames:List Str:=bifs.map bifName++[Str.ofString "isinstance",Str.ofString "list"]
noncomputable def freeChk(es:Array DictEntry):Bool:=freeNames.all λx=>(nsFind es x).isNone
noncomputable def headChk(K:Frag):Bool:=match esOf K with
 |some es=>constChk es K&&(dictChk es K&&freeChk es)
 |none=>false
noncomputable def pairs:List Fn->List DefRec->List (Fn×DefRec)
 |d::ds,r::rs=>if r.name==d.name then(d,r)::pairs ds rs else pairs (d::ds) rs
 |_,_=>[]
theorem pair_ok{p:Fn×DefRec}:∀{ds:List Fn}{rs:List DefRec},p∈pairs ds rs->p.2∈rs/\p.2.name=p.1.name
 |[],_,h=>by unfold pairs at h;exact nomatch h
 |_::_,[],h=>by unfold pairs at h;exact nomatch h
 |d::ds,r::rs,h=>by
  unfold pairs at h
  cases e:r.name==d.name with
  |true=>
   rw[e,if_pos rfl]at h
   rcases List.mem_cons.mp h with rfl|h
   ·exact⟨List.mem_cons_self ..,eq_of_beq e⟩
   ·exact(pair_ok h).imp (List.mem_cons_of_mem _) id
  |false=>
   rw[e,if_neg Bool.false_ne_true]at h
   exact(pair_ok h).imp (List.mem_cons_of_mem _) id
noncomputable def allFns:List Fn:=(List.range 54).filterMap fns
structure ChkAll(rs:List DefRec):Prop where
 all:(pairs allFns rs).map (·.1)=allFns
 ok:((pairs allFns rs).all λp=>fnHead p.1 p.2.params p.2.scope&&okSs (λy=>p.2.scope.names.lookup y) (fnTb p.1) p.1.body p.2.body)=true
 body:(pairs allFns rs).map (λp=>dSs p.1.body p.2.body)=(pairs allFns rs).map (λp=>p.2.body)
theorem fns_lt{f:Nat}{d:Fn}(h:fns f=some d):d∈allFns:=by
 refine List.mem_filterMap.mpr ⟨f,List.mem_range.mpr (Nat.lt_of_not_le λhn=>?_),h⟩
 obtain⟨k,rfl⟩:=Nat.exists_eq_add_of_le hn
 rw[Nat.add_comm]at h
 exact nomatch (show fns (k+54)=none from rfl).symm.trans h
theorem blt_ok:∀b,bootBuiltins (bifName b)=some (bifVal b)
 |.len=>by kernel_rfl
 |.tuple=>by kernel_rfl
 |.abs=>by kernel_rfl
 |.min=>by kernel_rfl
 |.max=>by kernel_rfl
 |.range=>by kernel_rfl
theorem blt_isi:bootBuiltins (Str.ofString "isinstance")=some (.builtin "isinstance"):=by kernel_rfl
theorem blt_list:bootBuiltins (Str.ofString "list")=some (.type "list"):=by kernel_rfl
theorem free_ok:∀b,(freeNames.contains (bifName b)&&bifName b !=Str.ofString "__name__")=true
 |.len=>by kernel_rfl
 |.tuple=>by kernel_rfl
 |.abs=>by kernel_rfl
 |.min=>by kernel_rfl
 |.max=>by kernel_rfl
 |.range=>by kernel_rfl
theorem free_isi:(freeNames.contains (Str.ofString "isinstance")&&Str.ofString "isinstance"!=Str.ofString "__name__")=true:=by kernel_rfl
theorem free_list:(freeNames.contains (Str.ofString "list")&&Str.ofString "list"!=Str.ofString "__name__")=true:=by kernel_rfl
theorem mg_of{p:Program}{loose:List Str}{mean:ExcName->Option Value}{mg mb:Str->Option Value}{H:Heap}{K:Frag}(T:Top p loose mean mg mb H)(hK:K.In H){es:Array DictEntry}(h:esOf K=some es)(x:Str):mg x=nsFind es x:=by
 unfold esOf at h
 cases e:K.lookup mainGlobals with
 |none=>rw[e]at h;exact nomatch h
 |some o=>
  rw[e]at h
  refine cps λPP kk=>?_
  obtain⟨o',es',ep,ho,hd,_,hf⟩:=T.g
  refine kk ?_
  rw[hK _ _ e]at ho
  rw[←Option.some.inj ho]at hd
  dsimp only at h
  rw[hd]at h
  exact(hf x).symm.trans (congrArg (nsFind · x) (Option.some.inj h))
theorem fns_of{p prog:Program}{w:World}{loose:List Str}{mean:ExcName->Option Value}{mg mb:Str->Option Value}{H:Heap}{K:Frag}(T:Top p loose mean mg mb H)(hK:K.In H)(h1:headChk K=true)(h2:ChkAll (recsOf p)):
  Fns prog w mg mb H:=by
 unfold headChk at h1
 cases hes:esOf K with
 |none=>rw[hes]at h1;exact nomatch h1
 |some es=>
  rw[hes]at h1
  have c1:=(and_i h1).1
  have c2:=(and_i (and_i h1).2).1
  have c3:=(and_i (and_i h1).2).2
  have hg:=mg_of T hK hes
  clear h1 hes
  have free:∀{x:Str}{v:Value},(freeNames.contains x&&x !=Str.ofString "__name__")=true->bootBuiltins x=some v->mg x=none/\mb x=some v:=λhx hv=>
   ⟨(hg _).trans (Option.isNone_iff_eq_none.mp (List.all_eq_true.mp c3 _ (List.contains_iff_mem.mp (and_i hx).1))),(T.builtins _ (bne_iff_ne.mp (and_i hx).2)).trans hv⟩
  refine⟨⟨T.g,T.b,λx v hx=>?_,λx d hx=>?_,λb=>free (free_ok b) (blt_ok b),free free_isi blt_isi,free free_list blt_list⟩,T.nolimit,λf d hd=>?_⟩
  ·have q:=and_i (List.all_eq_true.mp c1 _ (look_mem hx))
   obtain⟨u,hu⟩:=Option.isSome_iff_exists.mp q.1
   exact⟨u,(hg x).trans hu,λh' wa Bad hk hB=>repIn_ok hK hk hB v u ((show gOf es x=u from congrArg (·.getD .none) hu)▸q.2)⟩
  ·have q:=and_i (List.all_eq_true.mp c2 _ (look_mem hx))
   obtain⟨f,g1,g2⟩:=dictIn_ok (prog:=prog) (w:=w) hK (and_i q.2).1
   exact⟨_,f,(hg x).trans (of_decide_eq_true q.1),notT (and_i q.2).2,g1,g2⟩
  ·refine cps λPP kk=>?_
   obtain⟨⟨d',r⟩,hm,rfl⟩:=List.mem_map.mp (h2.all.symm▸fns_lt hd)
   obtain⟨hr,hn⟩:=pair_ok hm
   obtain⟨a,o,pm,code,doc,q1,q2,q3,q4⟩:=T.fn r hr
   refine kk ?_
   have q:=and_i (List.all_eq_true.mp h2.ok _ hm)
   exact .mk r.params r.body r.scope a o pm code doc (fnHead_ok q.1) q.2 (List.map_inj_left.mp h2.body _ hm) (hn▸q1) q2 (hn▸q3) (hn▸q4)
end
section
open Cx
variable{C:Cx}{s0:Shared}{Mu:Addr->Prop}{ad:Nat->Addr}{ρ:Env'}{σ σ':Option W}{s s':Shared}{Φ:Nat->List V->M V}
theorem ints_rep{wa:Option (Addr×Option Addr)}{Bad:Addr->Prop}{h:Heap}:∀{vs:List Value}{ns:List Int},IntsAre vs ns->Reps wa Bad h vs (ns.map V.int)
 |_,_,.nil=>.nil
 |_,_,.cons n t r=>.cons (.int n t) (ints_rep r)
theorem ints_len:∀{vs:List Value}{ns:List Int},IntsAre vs ns->vs.length=ns.length
 |_,_,.nil=>rfl
 |_,_,.cons n t r=>by rw[List.length_cons,List.length_cons,ints_len r]
theorem law_cut(X:Fx C s0)(F:Frm C s0 Mu ad ρ σ s){i:Nat}{x:Str}{p1 p2 p3 p4 p5 pos:Pos}{k:Nat}(hi:inTb C.tb i x=true)(hx:(x !=dbg)=true){a:Addr}{vs:List Value}{ns:List Int}(hrd:Rd1 C.wa C.env s.heap x (.ref a))
  (hL:s.heap.IsList a vs.toArray)(hI:IntsAre vs ns)(hlen:ns.length<=lim){E:Value->Shared->Prop}{Q:Flow->Shared->Prop}
  (hQ:∀s' ad',Frm C s0 Mu ad' (ρ.set i (.val (.lst (sliceL (ns.map V.int) 0 (some 40))))) σ s'->Q .next s'):
  wpAny (model C.prog C.w) C.A (exec (.Assign [.Name x p1] (.Subscript (.Name x p2) (.Slice none (some (.Constant (.int 40) k p3)) none p4) p5) pos) C.env) Q E s:=by
 refine wpAny_Assign_Name ?_ rfl
 refine Subscript_ (name_rd X hrd hx ?_)
 show wpAny _ _ (do let l ←(pure Value.none:Sem Value);let u ←holding [l] (eval (.Constant (.int 40) k p3) C.env);let s ←holding [l,u] (pure Value.none);newFields "slice" [l,u,s]) _ _ _
 refine wpAny_bind (wpAny_pure (wpAny_bind (wpAny_holding (wpAny_Constant_int ?_))))
 refine wpAny_bind (wpAny_holding (wpAny_pure (sliceObj ?_)))
 have kk:Kept s {s with heap:=s.heap.push {cls:=.type "slice",data:=.fields #[.none,.int 40 s.toks,.none]},toks:=s.toks+1}:=Kept.mk' s λb o e=>Heap.get?_push_of_some _ e
 have F1:=F.kept' X kk
 have hL1:(s.heap.push {cls:=.type "slice",data:=.fields #[.none,.int 40 s.toks,.none]}).IsList a vs.toArray:=hL.push _
 have r:Reps C.wa (C.also Mu).Bad (s.heap.push {cls:=.type "slice",data:=.fields #[.none,.int 40 s.toks,.none]}) vs (ns.map V.int):=ints_rep hI
 refine tail_ok hL1.typeIs PySem.F.slot_list_getitem.lookup ?_
 refine wpAny_getItem_list_slice hL1 (Heap.IsSliceOf.new ..) .none (.int _ _) .none (nofun) ?_ (by rw[List.size_toArray,ints_len hI];exact Nat.le_trans hlen lim_line)
 have h40:∀l,(some (40:Int))=some l->0<=l:=λl e=>by cases e;constructor
 rw[slice_list_eq (lo:=none) (hi:=some 40) (λl e=>(nomatch e)) h40]
 have hr:Reps C.wa (C.also Mu).Bad (s.heap.push {cls:=.type "slice",data:=.fields #[.none,.int 40 s.toks,.none]}) ((vs.toArray.toList.take (hiN (some 40) vs.toArray.size)).drop (loN none vs.toArray.size)) (sliceL (ns.map V.int) 0 (some 40)):=by
  have:=sliceL_eq (ns.map V.int) none (some 40)
  rw[List.length_map,←ints_len hI]at this
  have e1:sliceL (ns.map V.int) 0 (some 40)=sliceL (ns.map V.int) ((none:Option Int).getD 0).toNat ((some (40:Int)).map Int.toNat):=rfl
  rw[e1,←this,List.size_toArray]
  exact(r.take _).drop _
 have k2:=Kept.push {s with heap:=s.heap.push {cls:=.type "slice",data:=.fields #[.none,.int 40 s.toks,.none]},toks:=s.toks+1} {cls:=.type "list",dict:=none,data:=.seq ((vs.toArray.toList.take (hiN (some 40) vs.toArray.size)).drop (loN none vs.toArray.size)).toArray}
 have F2:=F1.kept' X k2
 exact F2.store X (inTb_mem hi) (a:=ad i) (sl:=.val _) (rep_push_lst (F1.st X).live hr) (λxs q=>by exact nomatch q) λs2 ad2 F3 _ _=>hQ s2 ad2 F3
theorem Rep.wa'{wa wa':Option (Addr×Option Addr)}{Bad:Addr->Prop}{h:Heap}(hw:∀p,wa=some p->∃p',wa'=some p'/\p'.1=p.1){v:Value}{x:V}(r:Rep wa Bad h v x):Rep wa' Bad h v x:=
 Rep.rec (motive_1:=λv x _=>Rep wa' Bad h v x) (motive_2:=λvs xs _=>Reps wa' Bad h vs xs) .none .bool .int .str (λn a _ ih=>.tup n a ih) (λn a _ ih=>.lst n a ih) .rng (λe=>let⟨p',e1,e2⟩:=hw _ e;e2▸.w e1) .nil (λ_ _ a b=>.cons a b) r
theorem Reps.wa'{wa wa':Option (Addr×Option Addr)}{Bad:Addr->Prop}{h:Heap}(hw:∀p,wa=some p->∃p',wa'=some p'/\p'.1=p.1){vs:List Value}{xs:List V}(r:Reps wa Bad h vs xs):Reps wa' Bad h vs xs:=
 r.ind (P:=λvs xs=>Reps wa' Bad h vs xs) .nil λr _ ih=>.cons (r.wa' hw) ih
noncomputable def Cx.withW(C:Cx)(wa:Option (Addr×Option Addr))(Bad:Addr->Prop):Cx:={C with wa:=wa,Bad:=Bad}
theorem Frm.rewa{wa:Option (Addr×Option Addr)}{Bad:Addr->Prop}(F:Frm C s0 Mu ad ρ σ s)(hw:∀p,C.wa=some p->∃p',wa=some p'/\p'.1=p.1)(hb:∀b,Bad b->C.Bad b)(hi:∀b,isW wa b->Bad b)(hk:KeptW wa s0 s)
  (w:WOk C.prog C.w wa ((C.withW wa Bad).also Mu).Bad s.heap σ'):Frm (C.withW wa Bad) s0 Mu ad ρ σ' s:=by
 have hb':∀b,((C.withW wa Bad).also Mu).Bad b->(C.also Mu).Bad b\/s.heap.get? b=none:=λb q=>.inl (q.imp (hb b) id)
 have hn:∀b,Mu b->¬isW wa b:=λb m q=>F.sep b m (hb b (hi b q))
 have hrd:∀{y v},Rd1 C.wa C.env s.heap y v->Rd1 wa C.env s.heap y v:=by
  rintro y v (⟨r1,r2,r3⟩|⟨r1,c,r2,r3,r4⟩)
  ·exact .inl ⟨r1,hn _ F.loc.1,r3⟩
  ·exact .inr ⟨r1,c,r2,hn _ (F.cells _ _ r2).1,r4⟩
 refine⟨F.dead0,F.alive,hk,w,F.loc,F.cells,?_,F.inj,λb e q=>F.live b e (hb b q),λb m q=>F.sep b m (hb b q),F.omu⟩
 intro i x m sl e
 have:=F.slot i x m sl e
 cases sl with
 |none=>trivial
 |val V=>obtain⟨v,q1,q2⟩:=this;exact⟨v,hrd q1,(q2.wa' hw).mono hb' λ_ _ _ e=>e⟩
 |own xs=>
  refine cps λPP kk=>?_
  obtain⟨q1,q2,vs,q3,q4,q5⟩:=this
  refine kk ?_
  exact⟨hrd q1,q2,vs,q3,(q4.wa' hw).mono hb' λ_ _ _ e=>e,q5⟩
end
section
open Cx
variable{C:Cx}{s0:Shared}{Mu:Addr->Prop}{ad:Nat->Addr}{ρ:Env'}{σ σ':Option W}{s s':Shared}{Φ:Nat->List V->M V}
theorem Fx.withW(X:Fx C s0){wa:Option (Addr×Option Addr)}{Bad:Addr->Prop}(hi:∀b,isW wa b->Bad b)(hd:∀b,Bad b->s0.heap.get? b=none):Fx (C.withW wa Bad) s0:=by
 refine⟨⟨X.ok.hh,X.ok.hu,X.ok.kind,X.ok.glob,X.ok.blt,hi,λb q=>?_,X.ok.cells,X.ok.base⟩,X.keep0,X.kinds,X.one,X.inj,X.cinj⟩
 cases e:C.H.get? b with
 |none=>exact e
 |some o=>have:=X.keep0 b o e;rw[hd b q]at this;exact nomatch this
theorem Frm.dead0'(X:Fx C s0)(F:Frm C s0 Mu ad ρ σ s){b:Addr}(hd:s.heap.get? b=none)(hw:¬isW C.wa b):s0.heap.get? b=none:=by
 cases e:s0.heap.get? b with
 |none=>rfl
 |some o=>rw[F.kept.heap b o hw e]at hd;assumption
theorem Fx.alsoD(X:Fx C s0){I:Addr}(hd:s0.heap.get? I=none):Fx (C.also (·=I)) s0:=X.also λb q=>by
 cases e:C.H.get? b with
 |none=>rfl
 |some o=>have:=X.keep0 b o e;rw[q,hd]at this;exact Eq.symm (by assumption)
theorem isW2{aw ar b:Addr}(q:isW (some (aw,some ar)) b):b=aw\/b=ar:=by
 obtain⟨p,e,q⟩:=q
 cases e
 exact q.imp id λq=>(Option.some.inj q).symm
theorem isW1{aw b:Addr}(q:isW (some (aw,none)) b):b=aw:=by
 obtain⟨p,e,q⟩:=q
 cases e
 exact q.elim id λq=>nomatch q
theorem Frm.none(F:Frm C s0 Mu ad ρ σ s)(e:C.wa=Option.none):σ=Option.none:=by
 cases F.w with
 |off=>rfl
 |on _ _ c=>obtain⟨p,q,_⟩:=c.isW;exact nomatch e.symm.trans q
theorem newV_i{g a l:V}{w:W}(h:newV g a l=some w):∃gs n m,g=.lst gs/\a=.int n/\l=.int m/\w={given:=gs,at_:=n,left:=m,rows:=[],fin:=false}:=by
 cases g with
 |lst gs=>obtain⟨n,m,rfl,rfl,e⟩:=on2_i h;exact⟨gs,n,m,rfl,rfl,rfl,(Option.some.inj e).symm⟩
 |_=>exact nomatch h
theorem new_i{o:Option W}{u:Unit}(h:M.new o σ=some (u,σ')):∃w,o=some w/\σ=Option.none/\σ'=some w:=by
 cases σ with
 |some=>exact nomatch h
 |none=>cases o with
  |none=>exact nomatch h
  |some w=>cases h;exact⟨w,rfl,rfl,rfl⟩
theorem law_made(X:Fx C s0)(hwa:C.wa=Option.none){D R:Addr}(hDR:D≠R)(h0D:s0.heap.get? D=Option.none)(h0R:s0.heap.get? R=Option.none){s6:Shared}(F6:Frm ((C.also (·=D)).also (·=R)) s0 Mu ad ρ Option.none s6){ug:Value}{gs:List V}{n m:Int}{tn tm:Tok}
  (r6:Rep C.wa (((C.also (·=D)).also (·=R)).also Mu).Bad s6.heap ug (.lst gs))(hLR:LstAt s6.heap R #[]){h':Heap}{tk:Nat}(kk:∀b o,b≠D->s6.heap.get? b=some o->h'.get? b=some o)
  (hd':h'.DictOf (strKind C.prog C.w) D (wPairs {given:=gs,at_:=n,left:=m,rows:=[],fin:=false} ug tn tm (.ref R))):
  Frm (C.withW (some (D,some R)) λb=>b=D\/b=R) s0 Mu ad ρ (some {given:=gs,at_:=n,left:=m,rows:=[],fin:=false}) {s6 with heap:=h',toks:=tk}:=by
 have X2:Fx ((C.also (·=D)).also (·=R)) s0:=(X.alsoD h0D).alsoD h0R
 have hnw:∀b,¬isW C.wa b:=λb q=>by rw[hwa]at q;obtain⟨p,e,_⟩:=q;exact nomatch e
 have F7:=F6.touch X2 (b0:=D) (.inl (.inr rfl)) (hnw D) h0D (h':=h') (tk:=tk) (let⟨o,_,_,ho,_⟩:=hd'.mapOf;⟨o,ho⟩) kk
 have hbad:∀b,((C.withW (some (D,some R)) λb=>b=D\/b=R).also Mu).Bad b->(((C.also (·=D)).also (·=R)).also Mu).Bad b:=λb q=>q.elim (λq=>q.elim (λq=>.inl (.inl (.inr q))) λq=>.inl (.inr q)) .inr
 have r7:=(r6.mono (Bad':=(((C.also (·=D)).also (·=R)).also Mu).Bad) (h':=h') (λ_ q=>.inl q) λb o n e=>kk b o (λz=>n (z▸.inl (.inl (.inr rfl)))) e).wa' (wa':=some (D,some R)) λp e=>nomatch hwa.symm.trans e
 refine F7.rewa (wa:=some (D,some R)) (Bad:=λb=>b=D\/b=R) (λp e=>nomatch hwa.symm.trans e) (λb q=>q.elim (λq=>.inl (.inr q)) .inr) (λb=>isW2) ?_ (.on hd' (r7.mono (λb q=>.inl (hbad b q)) λ_ _ _ e=>e) (.run rfl ⟨rfl,rfl⟩ hDR (lst_at hLR λo e=>kk _ o hDR.symm e) .nil (Nat.zero_le _)))
 obtain⟨h1,t1,e,kk'⟩:=F7.kept
 exact⟨h1,t1,e,λb o _ q=>kk' b o (hnw b) q⟩
theorem law_new(X:Fx C s0)(hΦ:PhiAll C Φ)(hwa:C.wa=Option.none)(F:Frm C s0 Mu ad ρ Option.none s){i:Nat}{x k1 k2 k3 k4:Str}{px p1 p2 p3 p4 lp dp pos:Pos}{n1 n2 n3 n4:Nat}{g a l:PySem.Expr}{eg ea el:Mine.E}
  (hi:inTb C.tb i x=true)(e1:k1=Str.ofString "given")(e2:k2=Str.ofString "at")(e3:k3=Str.ofString "left")(e4:k4=Str.ofString "rows")(hg:IsE C.env.kindOf C.tb eg g)(ha:IsE C.env.kindOf C.tb ea a)(hl:IsE C.env.kindOf C.tb el l)
  {fl:Fl}{ρ':Env'}(hf:evS Φ ρ (.newW i eg ea el) Option.none=some ((fl,ρ'),σ')){E:Value->Shared->Prop}{Q:Flow->Shared->Prop}
  (hQ:fl=.next->∀s' ad' aw ar,aw≠ar->s0.heap.get? aw=Option.none->s0.heap.get? ar=Option.none->Frm (C.withW (some (aw,some ar)) λb=>b=aw\/b=ar) s0 Mu ad' ρ' σ' s'->Q .next s'):
  wpAny (model C.prog C.w) C.A (exec (.Assign [.Name x px] (.Dict [some (.Constant (.str k1) n1 p1),some (.Constant (.str k2) n2 p2),some (.Constant (.str k3) n3 p3),some (.Constant (.str k4) n4 p4)] [g,a,l,.List [] lp] dp) pos) C.env) Q E s:=by
 refine cps λPP kk=>?_
 subst e1 e2 e3 e4
 obtain⟨vg,σ1,h1,hf1⟩:=M.bind_some hf
 obtain⟨va,σ2,h2,hf2⟩:=M.bind_some hf1
 obtain⟨vl,σ3,h3,hf3⟩:=M.bind_some hf2
 obtain⟨u,σ4,h4,hf4⟩:=M.bind_some hf3
 obtain⟨w,hw,rfl,rfl⟩:=new_i h4
 obtain⟨gs,n,m,rfl,rfl,rfl,rfl⟩:=newV_i hw
 cases hf4
 refine kk ?_
 clear hf hf1 hf2 hf3 h4 hw
 refine wpAny_Assign_Name (wpAny_Dict_walk (knd:=strKind C.prog C.w) rfl rfl (List.cons_ne_nil _ _) (by simp) ?_) rfl
 generalize hD:s.heap.objs.size=D
 have hdD:s.heap.get? D=Option.none:=hD▸get_size _
 have hnw:∀b,¬isW C.wa b:=λb q=>by rw[hwa]at q;obtain⟨p,e,_⟩:=q;exact nomatch e
 have h0D:=F.dead0' X hdD (hnw D)
 have F1:=F.enter X (Kept.push s {cls:=.type "dict",data:=.dict #[]}) hdD ⟨_,by rw[←hD];exact Heap.get?_push_size _ rfl⟩
 have hdo0:(s.heap.push {cls:=.type "dict",data:=.dict #[]}).DictOf (strKind C.prog C.w) D []:=by rw[←hD];exact Heap.DictOf.new _
 clear hD hdD
 have X1:=X.alsoD h0D
 have hΦ1:PhiAll (C.also (·=D)) Φ:=λB a b=>hΦ B a b
 have tokk:∀(s:Shared),Kept s {s with toks:=s.toks+1}:=λs=>Kept.tok s _
 refine pairTrees_cons_walk (Calls.Constant_str (frm_ev X1 hΦ1 (F1.kept' X1 (tokk _)) hg h1 λug s2 F2 r2 k2=>?_))
 have hdo2:=hdo0.keep (h':=s2.heap) λb o e=>k2.heap b o (hnw b) e
 clear F1 hdo0 k2 h1
 refine pairTrees_cons_walk (Calls.Constant_str (frm_ev X1 hΦ1 (F2.kept' X1 (tokk _)) ha h2 λua s3 F3 r3 k3=>?_))
 have hdo3:=hdo2.keep (h':=s3.heap) λb o e=>k3.heap b o (hnw b) e
 have r2:=k3.rep (F2.ok X1).isBad r2
 clear F2 hdo2 k3 h2
 refine pairTrees_cons_walk (Calls.Constant_str (frm_ev X1 hΦ1 (F3.kept' X1 (tokk _)) hl h3 λul s4 F4 r4 k4=>?_))
 have hdo4:=hdo3.keep (h':=s4.heap) λb o e=>k4.heap b o (hnw b) e
 have r2:=k4.rep (F3.ok X1).isBad r2
 clear F3 hdo3 k4 h3
 refine pairTrees_cons_walk (Calls.Constant_str (List_ (Calls.spliced_nil (wpAny_newObj_type (evalPairs_nil ?_)))))
 dsimp only
 generalize hR:s4.heap.objs.size=R
 have hdR:s4.heap.get? R=Option.none:=hR▸get_size _
 have F5:=F4.kept' X1 (tokk _)
 have h0R:=F5.dead0' X1 (b:=R) hdR (hnw R)
 have hLR:LstAt (s4.heap.push {cls:=.type "list",dict:=Option.none,data:=.seq ([]:List Value).toArray}) R #[]:=⟨_,by rw[←hR];exact Heap.get?_push_size _ rfl⟩
 have F6:=F5.enter X1 (I:=R) (Kept.push {s4 with toks:=s4.toks+1} {cls:=.type "list",dict:=Option.none,data:=.seq ([]:List Value).toArray}) hdR (hLR.elim λn e=>⟨_,e⟩)
 have hDR:D≠R:=λz=>F4.live R hdR (.inr z.symm)
 have r6:Rep C.wa (((C.also (·=D)).also (·=R)).also Mu).Bad (s4.heap.push {cls:=.type "list",dict:=Option.none,data:=.seq ([]:List Value).toArray}) ug (.lst gs):=
  r2.mono (λb q=>q.elim (λq=>q.elim (λq=>.inl (.inl q)) λq=>.inr (q▸hdR)) λq=>.inl (.inr q)) λb o _ e=>Heap.get?_push_of_some _ e
 have hdo6:=hdo4.keep (h':=s4.heap.push {cls:=.type "list",dict:=Option.none,data:=.seq ([]:List Value).toArray}) λb o e=>Heap.get?_push_of_some _ e
 obtain⟨tn,rfl⟩:=r3.inv
 obtain⟨tm,rfl⟩:=r4.inv
 clear F4 F5 hdo4 r2 r3 r4 hR
 refine display_done_str rfl (show([Str.ofString "given",Str.ofString "at",Str.ofString "left",Str.ofString "rows"]:List Str).Nodup by decide) hdo6 λh' hd' hs'=>?_
 have F8:=law_made X hwa hDR h0D h0R F6 (tn:=tn) (tm:=tm) r6 hLR (tk:=s4.toks+1+4) (λb o hb e=>hs'.extBut b o hb e) hd'
 have X8:Fx (C.withW (some (D,some R)) λb=>b=D\/b=R) s0:=X.withW (λb=>isW2) λb q=>q.elim (λq=>q▸h0D) λq=>q▸h0R
 exact F8.store X8 (show(i,x)∈C.tb from inTb_mem hi) (a:=ad i) (sl:=.val .w) (.w rfl) (λxs q=>nomatch q) λs9 ad9 F9 _ _=>hQ rfl s9 ad9 D R hDR h0D h0R F9
end
section
open Cx
section
variable{C:Cx}{s0:Shared}{Mu:Addr->Prop}{ad:Nat->Addr}{ρ:Env'}{σ σ':Option W}{s s':Shared}{Φ:Nat->List V->M V}
theorem law_frz(X:Fx C s0){aw ar:Addr}(hne:aw≠ar)(h0W:s0.heap.get? aw=none)(h0R:s0.heap.get? ar=none)(hwa:C.wa=some (aw,some ar))(hB:∀b,C.Bad b↔b=aw\/b=ar)(F:Frm C s0 Mu ad ρ σ s){i j k:Nat}{x y z:Str}{px py p2 sp pos:Pos}
  (hj:inTb C.tb j x=true)(hi:inTb C.tb i y=true)(hy:(y !=dbg)=true)(hz:z=Str.ofString "rows"){fl:Fl}{ρ':Env'}(hf:evS Φ ρ (.frzR j i) σ=some ((fl,ρ'),σ')){E:Value->Shared->Prop}{Q:Flow->Shared->Prop}
  (hQ:fl=.next->∀s' ad',Frm (C.withW (some (aw,none)) (·=aw)) s0 Mu ad' ρ' σ' s'->Q .next s'):
  wpAny (model C.prog C.w) C.A (exec (.Assign [.Name x px] (.Subscript (.Name y py) (.Constant (.str z) k p2) sp) pos) C.env) Q E s:=by
 refine cps λPP kk=>?_
 subst hz
 obtain⟨X0,hv,hf1⟩:=M.bl hf
 obtain⟨rfl,W,W',rfl,e,rfl⟩:=M.onW_i hf1
 cases e
 refine kk ?_
 refine wpAny_Assign_Name (Subscript_ (frm_w X F hi hy hv λp hp=>Calls.Constant_str ?_)) rfl
 cases w_at (F.kept' X (Kept.tok s (s.toks+1))).w hp with
 |mk hd rg q=>
  cases hwa.symm.trans hp
  have hb:∀b,((C.withW (some (aw,none)) (·=aw)).also Mu).Bad b->(C.also Mu).Bad b\/s.heap.get? b=none:=λb q=>.inl (q.imp (λq=>(hB b).mpr (.inl q)) id)
  have hw:∀p,C.wa=some p->∃p':Addr×Option Addr,some (aw,none)=some p'/\p'.1=p.1:=λp e=>by cases hwa.symm.trans e;exact⟨_,rfl,rfl⟩
  have rg':=(rg.wa' hw).mono hb λ_ _ _ e=>e
  cases q with
  |fin n=>exact nomatch hwa.symm.trans n
  |@run ar' rs n q2 ne q4 q5 q6=>
   cases hwa.symm.trans n
   obtain⟨_,rfl⟩:=q2
   refine tail_ok hd.typeIs PySem.F.slot_dict_getitem.lookup (wpAny_getItem_of (knd:=strKind C.prog C.w) (strKind_is _ _ _ _) hd.mapOf rfl ?_)
   have F1:=F.kept' X (Kept.tok s (s.toks+1+1))
   have F2:Frm (C.withW (some (aw,none)) (·=aw)) s0 Mu ad ρ (some {W with fin:=true}) {s with toks:=s.toks+1+1}:=by
    refine F1.rewa hw (λb q=>(hB b).mpr (.inl q)) (λb=>isW1) ?_ (.on hd rg' (.fin rfl rfl))
    obtain⟨h1,t1,e,kk⟩:=F1.kept
    refine⟨h1,t1,e,λb o n e=>kk b o (λq=>?_) e⟩
    rcases isW2 (hwa▸q)with q|q
    ·exact n (q▸⟨_,rfl,.inl rfl⟩)
    ·rw[q,h0R]at e;exact nomatch e
   have X2:Fx (C.withW (some (aw,none)) (·=aw)) s0:=X.withW (λb=>isW1) λb q=>q▸h0W
   have nb:¬((C.withW (some (aw,none)) (·=aw)).also Mu).Bad ar:=λq=>q.elim (λq=>hne q.symm) λq=>F.sep _ q ((hB _).mpr (.inr rfl))
   exact F2.store X2 (show(j,x)∈C.tb from inTb_mem hj) (a:=ad j) (sl:=.val (.lst W.rows)) (.lst nb q4 ((q5.wa' hw).mono hb λ_ _ _ e=>e)) (λxs q=>nomatch q) λs9 ad9 F9 _ _=>hQ rfl s9 ad9 F9
noncomputable def LOk(C:Cx)(s0:Shared)(t:Sem Flow)(f:Env'->M (Fl×Env')):Prop:=∀ρ σ ρ' σ',f ρ σ=some ((.ret (.bool true),ρ'),σ')->∀s Mu ad,Frm C s0 Mu ad ρ σ s->∀(E:Value->Shared->Prop)(Q:Flow->Shared->Prop),
 (∀h tk,(∀b o,s0.heap.get? b=some o->h.get? b=some o)->Q (.ret (.bool true)) {s0 with heap:=h,toks:=tk})->wpAny (model C.prog C.w) C.A t Q E s
noncomputable def NoW(C:Cx)(s0:Shared):Prop:=∀b o,s0.heap.get? b=some o->¬isW C.wa b
theorem rep_bool{wa:Option (Addr×Option Addr)}{Bad:Addr->Prop}{h:Heap}{v:Value}{b:Bool}(r:Rep wa Bad h v (.bool b)):v=.bool b:=by cases r;rfl
theorem LOk.fin(hn:NoW C s0)(F:Frm C s0 Mu ad ρ σ s){f:Flow}(o:FlOk C.wa (C.also Mu).Bad s.heap (.ret (.bool true)) f){Q:Flow->Shared->Prop}
  (hQ:∀h tk,(∀b o,s0.heap.get? b=some o->h.get? b=some o)->Q (.ret (.bool true)) {s0 with heap:=h,toks:=tk}):Q f s:=by
 cases f with
 |ret v=>
  obtain⟨h,tk,e,k⟩:=F.kept
  rw[rep_bool o,e]
  exact hQ h tk λb o e=>k b o (hn b o e) e
 |_=>exact o.elim
theorem LOk.last{t:Sem Flow}{f:Env'->M (Fl×Env')}(S:StOk C s0 t f)(hn:NoW C s0):LOk C s0 t f:=λρ σ ρ' σ' hf s Mu ad F E Q hQ=>S ρ σ _ ρ' σ' hf s Mu ad F E Q λf s' Mu' ad' F' _ o=>LOk.fin hn F' o hQ
theorem LOk.cons{st:Stmt}{r:List Stmt}{f g:Env'->M (Fl×Env')}(S:StOk C s0 (exec st C.env) f)(hn:NoW C s0)(R:LOk C s0 (execs r C.env) g):
  LOk C s0 (execs (st::r) C.env) (λρ=>(f ρ).bind λp=>match p.1 with|.next=>g p.2|.ret v=>M.pure (.ret v,p.2)):=by
 intro ρ σ ρ' σ' hf s Mu ad F E Q hQ
 refine cps λPP kk=>?_
 obtain⟨⟨f1,ρ1⟩,σ1,h1,h2⟩:=M.bind_some hf
 refine kk ?_
 refine wpAny_execs_cons (S ρ σ f1 ρ1 σ1 h1 s Mu ad F E _ λf s' Mu' ad' F' _ o=>?_)
 cases f1 with
 |next=>cases f with
  |next=>exact R _ _ _ _ h2 _ _ _ F' E Q hQ
  |_=>exact o.elim
 |ret v=>
  refine cps λPP kk=>?_
  cases h2
  refine kk ?_
  cases f with
  |ret=>exact LOk.fin hn F' o hQ
  |_=>exact o.elim
theorem LOk.new(X:Fx C s0)(hΦ:PhiAll C Φ)(hwa:C.wa=none){i:Nat}{x k1 k2 k3 k4:Str}{px p1 p2 p3 p4 lp dp pos:Pos}{n1 n2 n3 n4:Nat}{g a l:PySem.Expr}{eg ea el:Mine.E}
  (hi:inTb C.tb i x=true)(e1:k1=Str.ofString "given")(e2:k2=Str.ofString "at")(e3:k3=Str.ofString "left")(e4:k4=Str.ofString "rows")(hg:IsE C.env.kindOf C.tb eg g)(ha:IsE C.env.kindOf C.tb ea a)(hl:IsE C.env.kindOf C.tb el l)
  {r:List Stmt}{f:Env'->M (Fl×Env')}(R:∀aw ar,aw≠ar->s0.heap.get? aw=none->s0.heap.get? ar=none->LOk (C.withW (some (aw,some ar)) λb=>b=aw\/b=ar) s0 (execs r C.env) f):
  LOk C s0 (execs (.Assign [.Name x px] (.Dict [some (.Constant (.str k1) n1 p1),some (.Constant (.str k2) n2 p2),some (.Constant (.str k3) n3 p3),some (.Constant (.str k4) n4 p4)] [g,a,l,.List [] lp] dp) pos::r) C.env)
   (λρ=>(evS Φ ρ (.newW i eg ea el)).bind λp=>match p.1 with|.next=>f p.2|.ret v=>M.pure (.ret v,p.2)):=by
 intro ρ σ ρ' σ' hf s Mu ad F E Q hQ
 cases F.none hwa
 refine cps λPP kk=>?_
 obtain⟨⟨f1,ρ1⟩,σ1,h1,h2⟩:=M.bind_some hf
 refine kk ?_
 refine wpAny_execs_cons (law_new X hΦ hwa F hi e1 e2 e3 e4 hg ha hl h1 λhfl s3 ad3 aw ar hne h0W h0R F3=>?_)
 cases hfl
 exact R aw ar hne h0W h0R _ _ _ _ h2 _ _ _ F3 E Q hQ
theorem LOk.frz(X:Fx C s0){aw ar:Addr}(hne:aw≠ar)(h0W:s0.heap.get? aw=none)(h0R:s0.heap.get? ar=none)(hwa:C.wa=some (aw,some ar))(hB:∀b,C.Bad b↔b=aw\/b=ar){i j k:Nat}{x y z:Str}{px py p2 sp pos:Pos}
  (hj:inTb C.tb j x=true)(hi:inTb C.tb i y=true)(hy:(y !=dbg)=true)(hz:z=Str.ofString "rows"){r:List Stmt}{f:Env'->M (Fl×Env')}(R:LOk (C.withW (some (aw,none)) (·=aw)) s0 (execs r C.env) f):
  LOk C s0 (execs (.Assign [.Name x px] (.Subscript (.Name y py) (.Constant (.str z) k p2) sp) pos::r) C.env) (λρ=>(evS Φ ρ (.frzR j i)).bind λp=>match p.1 with|.next=>f p.2|.ret v=>M.pure (.ret v,p.2)):=by
 intro ρ σ ρ' σ' hf s Mu ad F E Q hQ
 refine cps λPP kk=>?_
 obtain⟨⟨f1,ρ1⟩,σ1,h1,h2⟩:=M.bind_some hf
 refine kk ?_
 refine wpAny_execs_cons (law_frz X hne h0W h0R hwa hB F hj hi hy hz h1 λhfl s3 ad3 F3=>?_)
 cases hfl
 exact R _ _ _ _ h2 _ _ _ F3 E Q hQ
theorem law_ok(X:Fx C s0)(hΦ:∀wa Bad,PhiAll (C.withW wa Bad) Φ)(hwa:C.wa=none){S1 S3 S4:Mine.S}{R:Ss}{w j w':Nat}{eg ea el:Mine.E}{t1 t3 t4:Stmt}{r:List Stmt}{y z y':Str}{n1 n2 n3 n4 n5:Nat}{py p1 p2 p3 p4 lp dp pos2 pz py' p5 sp pos5:Pos}{xg xa xl:PySem.Expr}
  (f1:frzI S1=none)(f3:frzI S3=none)(f4:frzI S4=none)(h1:okS C.env.kindOf C.tb S1 t1=true)(hy:inTb C.tb w y=true)(hg:okE C.env.kindOf C.tb eg xg=true)(ha:okE C.env.kindOf C.tb ea xa=true)(hl:okE C.env.kindOf C.tb el xl=true)
  (h3:okS C.env.kindOf C.tb S3 t3=true)(h4:okS C.env.kindOf C.tb S4 t4=true)(hz:inTb C.tb j z=true)(hy':inTb C.tb w' y'=true)(hd:(y' !=dbg)=true)(hr:okSs C.env.kindOf C.tb R r=true):
  LOk C s0 (execs (dS S1 t1::.Assign [.Name y py] (.Dict [some (.Constant (.str (Str.ofString "given")) n1 p1),some (.Constant (.str (Str.ofString "at")) n2 p2),some (.Constant (.str (Str.ofString "left")) n3 p3),some (.Constant (.str (Str.ofString "rows")) n4 p4)] [dE eg xg,dE ea xa,dE el xl,.List [] lp] dp) pos2::
   dS S3 t3::dS S4 t4::.Assign [.Name z pz] (.Subscript (.Name y' py') (.Constant (.str (Str.ofString "rows")) n5 p5) sp) pos5::dSs R r) C.env) (λρ=>evSs Φ ρ (.cons S1 (.cons (.newW w eg ea el) (.cons S3 (.cons S4 (.cons (.frzR j w') R)))))):=
 .cons (snd_s S1 f1 C s0 X (hΦ C.wa C.Bad) t1 h1) (λb o _ q=>by rw[hwa]at q;obtain⟨p,e,_⟩:=q;exact nomatch e)<|
 .new X (hΦ C.wa C.Bad) hwa hy rfl rfl rfl rfl ⟨_,hg,rfl⟩ ⟨_,ha,rfl⟩ ⟨_,hl,rfl⟩ λaw ar hne h0W h0R=>
 have dead:∀b,b=aw\/b=ar->s0.heap.get? b=none:=λb q=>q.elim (λq=>q▸h0W) λq=>q▸h0R
 have X2:Fx (C.withW (some (aw,some ar)) λb=>b=aw\/b=ar) s0:=X.withW (λb=>isW2) dead
 have n2:NoW (C.withW (some (aw,some ar)) λb=>b=aw\/b=ar) s0:=λb o e q=>nomatch (dead b (isW2 q)).symm.trans e
 .cons (snd_s S3 f3 _ s0 X2 (hΦ _ _) t3 h3) n2<|.cons (snd_s S4 f4 _ s0 X2 (hΦ _ _) t4 h4) n2<|
 .frz X2 hne h0W h0R rfl (λb=>Iff.rfl) hz hy' hd rfl<|
 .last (snd_body R _ s0 (X.withW (λb=>isW1) λb q=>q▸h0W) (hΦ _ _) r hr) λb o e q=>nomatch (isW1 q▸h0W:s0.heap.get? b=none).symm.trans e
theorem cut_run{ns:List Int}(h0:0<ρ.length)(hlen:ns.length<=lim):evS Φ (ρ.set 0 (.val (.lst (ns.map V.int)))) (.asg 0 (.slcH (.loc 0) (.int 40))) none=some ((.next,ρ.set 0 (.val (.lst (sliceL (ns.map V.int) 0 (some 40))))),none):=by
 have g:getV (ρ.set 0 (.val (.lst (ns.map V.int)))) 0=some (.lst (ns.map V.int)):=by
  unfold getV
  rw[List.getElem?_set_self h0]
 have z:slcV (.lst (ns.map V.int)) 0 (some 40)=some (.lst (sliceL (ns.map V.int) 0 (some 40))):=if_pos ⟨by constructor,by constructor,by rw[List.length_map];exact hlen⟩
 show(((M.lift (getV (ρ.set 0 (.val (.lst (ns.map V.int)))) 0)).bind λx=>M.lift (slcV x 0 (some 40))).bind λv=>M.pure (Fl.next,(ρ.set 0 (.val (.lst (ns.map V.int)))).set 0 (.val v))) none=_
 rw[g]
 show((M.lift (slcV (.lst (ns.map V.int)) 0 (some 40))).bind λv=>M.pure (Fl.next,(ρ.set 0 (.val (.lst (ns.map V.int)))).set 0 (.val v))) none=_
 rw[z]
 exact congrArg (λr=>some ((Fl.next,r),none)) (List.set_set ..)
theorem law_walk(X:Fx C s0)(F:Frm C s0 Mu ad ρ none s){x:Str}{p1 p2 p3 p4 p5 pos:Pos}{k:Nat}(hi:inTb C.tb 0 x=true)(hx:(x !=dbg)=true){a:Addr}{vs:List Value}{ns:List Int}(hrd:Rd1 C.wa C.env s.heap x (.ref a))(hL:s.heap.IsList a vs.toArray)(hI:IntsAre vs ns)(hlen:ns.length<=lim)
  (h0:0<ρ.length){f:Env'->M (Fl×Env')}{r:List Stmt}(R:LOk C s0 (execs r C.env) f){ρ':Env'}(hf:((evS Φ (ρ.set 0 (.val (.lst (ns.map V.int)))) (.asg 0 (.slcH (.loc 0) (.int 40)))).bind λp=>match p.1 with|.next=>f p.2|.ret v=>M.pure (.ret v,p.2)) none=some ((.ret (.bool true),ρ'),σ'))
  {E:Value->Shared->Prop}{Q:Flow->Shared->Prop}(hQ:∀h tk,(∀b o,s0.heap.get? b=some o->h.get? b=some o)->Q (.ret (.bool true)) {s0 with heap:=h,toks:=tk}):
  wpAny (model C.prog C.w) C.A (execs (.Assign [.Name x p1] (.Subscript (.Name x p2) (.Slice none (some (.Constant (.int 40) k p3)) none p4) p5) pos::r) C.env) Q E s:=by
 refine cps λPP kk=>?_
 obtain⟨⟨f1,ρ1⟩,σ1,h1,h2⟩:=M.bind_some hf
 rw[cut_run h0 hlen]at h1
 cases h1
 refine kk ?_
 exact wpAny_execs_cons (law_cut X F hi hx hrd hL hI hlen λs1 ad1 F1=>R _ _ _ _ h2 _ _ _ F1 E Q hQ)
end
noncomputable def lawD(S1 S3 S4:Mine.S)(R:Ss)(eg ea el:Mine.E)(b:List Stmt):List Stmt:=
 .Assign [xName (sT (b.getD 0 sNone))] (.Subscript (.Name (xNm (sT (b.getD 0 sNone))) (xK (sV (b.getD 0 sNone)) 0).pos) (.Slice none (some (.Constant (.int 40) (xTok (xK (xK (sV (b.getD 0 sNone)) 1) 0)) (xK (xK (sV (b.getD 0 sNone)) 1) 0).pos)) none (xK (sV (b.getD 0 sNone)) 1).pos) (sV (b.getD 0 sNone)).pos) (b.getD 0 sNone).pos::
 dS S1 (b.getD 1 sNone)::.Assign [xName (sT (b.getD 2 sNone))] (.Dict [some (xStr (Str.ofString "given") (xK (sV (b.getD 2 sNone)) 0)),some (xStr (Str.ofString "at") (xK (sV (b.getD 2 sNone)) 1)),some (xStr (Str.ofString "left") (xK (sV (b.getD 2 sNone)) 2)),some (xStr (Str.ofString "rows") (xK (sV (b.getD 2 sNone)) 3))]
  [dE eg (xK (sV (b.getD 2 sNone)) 4),dE ea (xK (sV (b.getD 2 sNone)) 5),dE el (xK (sV (b.getD 2 sNone)) 6),.List [] (xK (sV (b.getD 2 sNone)) 7).pos] (sV (b.getD 2 sNone)).pos) (b.getD 2 sNone).pos::
 dS S3 (b.getD 3 sNone)::dS S4 (b.getD 4 sNone)::.Assign [xName (sT (b.getD 5 sNone))] (.Subscript (xName (xK (sV (b.getD 5 sNone)) 0)) (xStr (Str.ofString "rows") (xK (sV (b.getD 5 sNone)) 1)) (sV (b.getD 5 sNone)).pos) (b.getD 5 sNone).pos::dSs R (b.drop 6)
noncomputable def lawOk(kd:Str->Option NameKind)(tb:Tb)(w j w':Nat)(S1 S3 S4:Mine.S)(R:Ss)(eg ea el:Mine.E)(b:List Stmt):Bool:=
 ((inTb tb 0 (xNm (sT (b.getD 0 sNone)))&&xNm (sT (b.getD 0 sNone))!=dbg)&&((frzI S1).isNone&&((frzI S3).isNone&&(frzI S4).isNone)))&&((okS kd tb S1 (b.getD 1 sNone)&&(inTb tb w (xNm (sT (b.getD 2 sNone)))&&(okE kd tb eg (xK (sV (b.getD 2 sNone)) 4)&&(okE kd tb ea (xK (sV (b.getD 2 sNone)) 5)&&okE kd tb el (xK (sV (b.getD 2 sNone)) 6)))))&&
  ((okS kd tb S3 (b.getD 3 sNone)&&okS kd tb S4 (b.getD 4 sNone))&&((inTb tb j (xNm (sT (b.getD 5 sNone)))&&(inTb tb w' (xNm (xK (sV (b.getD 5 sNone)) 0))&&xNm (xK (sV (b.getD 5 sNone)) 0)!=dbg))&&okSs kd tb R (b.drop 6))))
end
section
set_option maxRecDepth 100000
open Cx
noncomputable def lawSlots(ns:List Int):Env':=Slot.val (.lst (ns.map V.int))::List.replicate 14 Slot.none
noncomputable def fuelN:Nat:=200
theorem law_fin{p prog:Program}{w:World}{loose:List Str}{mean:ExcName->Option Value}{mg mb:Str->Option Value}{s₁:Shared}{K:Frag}(T:Top p loose mean mg mb s₁.heap)(hK:K.In s₁.heap)(h1:headChk K=true)(h2:ChkAll (recsOf p))
  {params:Arguments}{body:List Stmt}{scope:Scope}{fa:Addr}{cd:Value}{h₁:Heap}{tk:Nat}{S1 S3 S4:Mine.S}{R:Ss}{wi j w':Nat}{eg ea el:Mine.E}(hir:flaw.body=.cons (.asg 0 (.slcH (.loc 0) (.int 40))) (.cons S1 (.cons (.newW wi eg ea el) (.cons S3 (.cons S4 (.cons (.frzR j w') R))))))
  (hh:fnHead flaw params scope=true)(hb:lawD S1 S3 S4 R eg ea el body=body)(hc:lawOk (λy=>scope.names.lookup y) (fnTb flaw) wi j w' S1 S3 S4 R eg ea el body=true)
  {ns:List Int}{a:Addr}{vs:List Value}(hL:s₁.heap.IsList a vs.toArray)(hI:IntsAre vs ns)(hlen:ns.length<=63)
  (F:Fr s₁.heap s₁.heap.objs.size h₁ (bindL (envOfC flaw.name scope s₁.heap.objs.size fa cd).kindOf ((flaw.names.take flaw.np).zip [.ref a]) λ_=>none))
  {cells:List (Addr×Obj)}(N:News s₁.heap s₁.heap.objs.size h₁ cells)(X:CellsAre (bindC (envOfC flaw.name scope s₁.heap.objs.size fa cd).kindOf ((flaw.names.take flaw.np).zip [.ref a]) λ_=>none) (cellsFrom (s₁.heap.objs.size+1) scope.names []) cells)
  {cx:Str}(hcs:cellsFrom (s₁.heap.objs.size+1) scope.names []=[(cx,s₁.heap.objs.size+1)])
  (hloc:scope.names.lookup (Str.ofString "script")=some .local)
  (plain:∃ρ' σ',evSs (run fns fuelN) (lawSlots ns) flaw.body none=some ((.ret (.bool true),ρ'),σ'))
  {E:Value->Shared->Prop}{Q:Flow->Shared->Prop}(hQ:∀h tk,(∀b o,s₁.heap.get? b=some o->h.get? b=some o)->Q (.ret (.bool true)) {s₁ with heap:=h,toks:=tk}):
  wpAny (model prog w) (callerA.deeper (envOfC flaw.name scope s₁.heap.objs.size fa cd)) (execs body (envOfC flaw.name scope s₁.heap.objs.size fa cd)) Q E {s₁ with heap:=h₁,toks:=tk}:=by
 have Y:=fns_of (prog:=prog) (w:=w) T hK h1 h2
 have X':Cl s₁.heap.objs.size (cellsFrom (s₁.heap.objs.size+1) scope.names []) h₁ _:=Cl.of_news (own:=[]) N X (by rw[hcs];exact List.pairwise_singleton ..) (λn c hm=>by rw[hcs]at hm;cases List.mem_singleton.mp hm;exact Nat.lt_succ_self _)
 obtain⟨FX,FR⟩:=frm_start (A:=callerA.deeper (envOfC flaw.name scope s₁.heap.objs.size fa cd)) (wa:=none) (Bad:=λ_=>False) (σ:=none) (sls:=[Slot.none]) (tk:=tk) (E:=Slot.none::List.replicate 14 Slot.none) Y rfl (by show 4+3+700<cLine;decide)
  (λb q=>by obtain⟨p,e,_⟩:=q;exact nomatch e) (λb q=>q.elim) (fnHead_ok hh) (λ_ _ e=>e) (λ_ _ q=>q) (.off rfl) (vs:=[.ref a]) F X' rfl rfl (λi sl e=>by
   cases i with
   |zero=>exact⟨.ref a,rfl,.inl (by simpa using e.symm)⟩
   |succ i=>simp at e) (hE:=rfl)
 obtain⟨ρ',σ',hp⟩:=plain
 rw[hir]at hp
 have c1:=and_i hc
 have c0:=and_i c1.1
 have c2:=and_i c1.2
 have c3:=and_i c2.1
 have c4:=and_i c3.2
 have c5:=and_i c4.2
 have c6:=and_i c5.2
 have d:=and_i c2.2
 have d1:=and_i d.2
 have d2:=and_i d1.1
 have f:=and_i c0.2
 have hL':h₁.IsList a vs.toArray:=hL.elim λo q=>⟨o,F.keep _ _ q.1,q.2⟩
 have hX0:=inTb_mem (and_i c0.1).1
 have hxs:xNm (sT (body.getD 0 sNone))=Str.ofString "script":=Option.some.inj ((fnTb_mem hX0).symm.trans (show flaw.names[0]?=some (Str.ofString "script")from rfl))
 have hrd:Rd1 none (envOfC flaw.name scope s₁.heap.objs.size fa cd) h₁ (xNm (sT (body.getD 0 sNone))) (.ref a):=by
  rw[hxs]
  exact .inl ⟨hloc,(λq=>by obtain⟨p,e,_⟩:=q;exact nomatch e),_,F.ns,bindL_get (i:=0) hloc (by decide) rfl rfl⟩
 rw[←hb]
 exact law_walk FX FR (and_i c0.1).1 (and_i c0.1).2 hrd hL' hI (Nat.le_trans hlen (by decide)) (Nat.succ_pos _) (law_ok (Φ:=run fns fuelN) FX (λwa Bad=>run_ok fuelN _ rfl (by show 1+claimMargin+1+fuelN<=recursionLimit;decide) (by show 4+3+3*fuelN+700<cLine;decide) Y) rfl (w:=wi) (j:=j) (w':=w')
  (Option.isNone_iff_eq_none.mp f.1) (Option.isNone_iff_eq_none.mp (and_i f.2).1) (Option.isNone_iff_eq_none.mp (and_i f.2).2) c3.1 c4.1 c5.1 c6.1 c6.2 (and_i d.1).1 (and_i d.1).2 d2.1 (and_i d2.2).1 (and_i d2.2).2 d1.2) hp hQ
end
end
section
open PySem PyProof.Rows
section
open PySem
theorem M.pure_bind{α β:Type}(a:α)(f:α->M β):(M.pure a).bind f=f a:=rfl
theorem M.lift_s{α:Type}(a:α):M.lift (some a)=M.pure a:=rfl
theorem run_suc(n f:Nat)(xs:List V):run fns (n+1) f xs=match fns f with
 |some d=>if xs.length=d.np then(evSs (run fns n) (xs.map Slot.val++List.replicate (d.names.length-d.np) Slot.none) d.body).bind λp=>match p.1 with
    |.ret v=>M.pure v
    |.next=>M.pure .none
   else M.fail
 |Option.none=>M.fail:=rfl
noncomputable def bodyR(Φ:Nat->List V->M V)(ρ:Env')(b:Ss):M V:=(evSs Φ ρ b).bind λp=>match p.1 with|.ret v=>M.pure v|.next=>M.pure .none
section
variable{Φ:Nat->List V->M V}{ρ:Env'}
theorem M.bind_assoc{α β γ:Type}(m:M α)(f:α->M β)(g:β->M γ):(m.bind f).bind g=m.bind λx=>(f x).bind g:=by
 funext σ;unfold M.bind;cases m σ<;>rfl
end
theorem run_b(n f:Nat)(xs:List V){d:Fn}(hd:fns f=some d)(hl:xs.length=d.np):run fns (n+1) f xs=bodyR (run fns n) (xs.map Slot.val++List.replicate (d.names.length-d.np) Slot.none) d.body:=by
 rw[run_suc,hd];exact if_pos hl
section
theorem ceq_i(a b:Int):cmpV .Eq (.int a) (.int b)=some (a==b):=rfl
theorem ceq_s(a b:Str):cmpV .Eq (.str a) (.str b)=some (a==b):=rfl
theorem cni_i2{x a b:Int}:cmpV .NotIn (.int x) (.tup [.int a,.int b])=some (!(a==x||(b==x||false))):=rfl
theorem cin_i2{x a b:Int}:cmpV .In (.int x) (.tup [.int a,.int b])=some (a==x||(b==x||false)):=rfl
theorem bmod{a b:Int}(h:b≠0):binV .Mod (.int a) (.int b)=some (.int (a.fmod b)):=if_pos h
theorem ofs_inj{a b:String}:Str.ofString a=Str.ofString b↔a=b:=by
 refine⟨λh=>?_,λh=>congrArg _ h⟩
 rw[Str.ofString_eq_toList,Str.ofString_eq_toList]at h
 have h1:(a.toList.map Char.toNat)=(b.toList.map Char.toNat):=by
  have:=congrArg (λs:Str=>s.cps.toList) h
  simpa using this
 exact String.toList_inj.mp (List.map_inj_right (λx y e=>Char.ext (UInt32.toNat_inj.mp e))|>.mp h1)
theorem ofs_beq{a b:String}:(Str.ofString a==Str.ofString b)=decide (a=b):=by
 by_cases h:a=b
 ·rw[decide_eq_true h,h];exact beq_self_eq_true _
 ·rw[decide_eq_false h];exact beq_false_of_ne λe=>h (ofs_inj.mp e)
theorem ceq_b(a b:Bool):cmpV .Eq (.bool a) (.bool b)=some (a==b):=rfl
theorem cin_s2{x a b:Str}:cmpV .In (.str x) (.tup [.str a,.str b])=some (a==x||(b==x||false)):=rfl
theorem ceq_si{x:Str}{a:Int}:cmpV .Eq (.str x) (.int a)=some false:=rfl
theorem ceq_is{x:Int}{a:Str}:cmpV .Eq (.int x) (.str a)=some false:=rfl
theorem ceq_ni{a:Int}:cmpV .Eq .none (.int a)=some false:=rfl
theorem bmul{a b:Int}(h:a.natAbs<big/\b.natAbs<big):binV .Mult (.int a) (.int b)=some (.int (a*b)):=if_pos h
theorem bdiv{a b:Int}(h:b≠0/\a.natAbs<big/\b.natAbs<big):binV .FloorDiv (.int a) (.int b)=some (.int (a.fdiv b)):=if_pos h
end
end
section
open PySem
inductive Sc where
 |e
 |v (n:Nat) (x:V) (r:Sc)
 |b (n:Nat) (x:Bool) (r:Sc)
 |l (n:Nat) (x:List V) (r:Sc)
 |m (n:Nat) (x:V) (r:Sc)
 |s (n:Nat) (x:V) (q:Option W) (r:Sc)
 |p (n:Nat) (x:Env') (r:Sc)
 |q (n:Nat) (f:Fl) (x:Env') (r:Sc)
 |z (n:Nat) (f:Fl) (x:Env') (w:Option W) (r:Sc)
 |y (n:Nat) (x:V) (r:Sc)
 |k (n:Nat) (f:Fl) (x:Env') (w:Option W) (r:Sc)
noncomputable def Sc.dec:Sc->Sc
 |.e=>.e
 |.v n x r=>.v (n-1) x r
 |.b n x r=>.b (n-1) x r
 |.l n x r=>.l (n-1) x r
 |.m n x r=>.m (n-1) x r
 |.s n x w r=>.s (n-1) x w r
 |.p n x r=>.p (n-1) x r
 |.q n f x r=>.q (n-1) f x r
 |.z n f x w r=>.z (n-1) f x w r
 |.y n x r=>.y n x r
 |.k n f x w r=>.k n f x w r
noncomputable abbrev Kt(α:Type):=α->Option W->Sc->Prop
noncomputable def autO{α:Type}(o:Option α)(sc:Sc)(k:α->Sc->Prop):Prop:=match o with
 |some x=>k x sc.dec
 |Option.none=>False
noncomputable def autM{α:Type}(o:Option (α×Option W))(sc:Sc)(k:Kt α):Prop:=match o with
 |some (x,w)=>k x w sc.dec
 |Option.none=>False
noncomputable def askV(o:Option V)(sc:Sc)(k:V->Sc->Prop):Prop:=match sc with
 |.v 0 x r=>o=some x/\k x r
 |sc=>autO o sc k
noncomputable def askT(o:Option Bool)(sc:Sc)(k:Bool->Sc->Prop):Prop:=match sc with
 |.b 0 x r=>o=some x/\k x r
 |sc=>autO o sc k
noncomputable def askL(o:Option (List V))(sc:Sc)(k:List V->Sc->Prop):Prop:=match sc with
 |.l 0 x r=>o=some x/\k x r
 |sc=>autO o sc k
noncomputable def askR(o:Option Env')(sc:Sc)(k:Env'->Sc->Prop):Prop:=match sc with
 |.p 0 x r=>o=some x/\k x r
 |sc=>autO o sc k
noncomputable def askM(m:M V)(w:Option W)(sc:Sc)(k:Kt V):Prop:=match sc with
 |.m 0 x r=>m=M.pure x/\k x w r
 |.s 0 x q r=>m w=some (x,q)/\k x q r
 |sc=>autM (m w) sc k
noncomputable def autB(t:Bool)(sc:Sc)(k1 k0:Sc->Prop):Prop:=match t with
 |true=>k1 sc.dec
 |false=>k0 sc.dec
noncomputable def askB(t:Bool)(sc:Sc)(k1 k0:Sc->Prop):Prop:=match sc with
 |.b 0 true r=>t=true/\k1 r
 |.b 0 false r=>t=false/\k0 r
 |sc=>autB t sc k1 k0
section
theorem autO_ok{α:Type}{o:Option α}{sc:Sc}{k:α->Sc->Prop}(h:autO o sc k):∃x r,o=some x/\k x r:=by
 cases o with
 |none=>exact h.elim
 |some x=>exact⟨x,_,rfl,h⟩
theorem autM_ok{α:Type}{o:Option (α×Option W)}{sc:Sc}{k:Kt α}(h:autM o sc k):∃x w r,o=some (x,w)/\k x w r:=by
 cases o with
 |none=>exact h.elim
 |some x=>exact⟨x.1,x.2,_,rfl,h⟩
theorem askV_ok{o:Option V}{sc:Sc}{k:V->Sc->Prop}(h:askV o sc k):∃x r,o=some x/\k x r:=by
 cases sc with
 |v n x r=>cases n with
  |zero=>exact⟨x,r,h⟩
  |succ n=>exact autO_ok h
 |_=>exact autO_ok h
theorem askT_ok{o:Option Bool}{sc:Sc}{k:Bool->Sc->Prop}(h:askT o sc k):∃x r,o=some x/\k x r:=by
 cases sc with
 |b n x r=>cases n with
  |zero=>exact⟨x,r,h⟩
  |succ n=>exact autO_ok h
 |_=>exact autO_ok h
theorem askL_ok{o:Option (List V)}{sc:Sc}{k:List V->Sc->Prop}(h:askL o sc k):∃x r,o=some x/\k x r:=by
 cases sc with
 |l n x r=>cases n with
  |zero=>exact⟨x,r,h⟩
  |succ n=>exact autO_ok h
 |_=>exact autO_ok h
theorem askR_ok{o:Option Env'}{sc:Sc}{k:Env'->Sc->Prop}(h:askR o sc k):∃x r,o=some x/\k x r:=by
 cases sc with
 |p n x r=>cases n with
  |zero=>exact⟨x,r,h⟩
  |succ n=>exact autO_ok h
 |_=>exact autO_ok h
theorem askM_ok{m:M V}{w:Option W}{sc:Sc}{k:Kt V}(h:askM m w sc k):∃x q r,m w=some (x,q)/\k x q r:=by
 cases sc with
 |m n x r=>cases n with
  |zero=>exact⟨x,w,r,congrFun h.1 w,h.2⟩
  |succ n=>exact autM_ok h
 |s n x q r=>cases n with
  |zero=>exact⟨x,q,r,h⟩
  |succ n=>exact autM_ok h
 |_=>exact autM_ok h
theorem askB_ok{t:Bool}{sc:Sc}{k1 k0:Sc->Prop}(h:askB t sc k1 k0):∃r,t=true/\k1 r\/t=false/\k0 r:=by
 have auto:∀{sc:Sc},autB t sc k1 k0->∃r,t=true/\k1 r\/t=false/\k0 r:=by
  intro sc h
  cases t
  ·exact⟨_,.inr ⟨rfl,h⟩⟩
  ·exact⟨_,.inl ⟨rfl,h⟩⟩
 cases sc with
 |b n x r=>cases n with
  |zero=>cases x with
   |true=>exact⟨r,.inl h⟩
   |false=>exact⟨r,.inr h⟩
  |succ n=>exact auto h
 |_=>exact auto h
end
noncomputable abbrev Cw(α:Type):=Option W->Sc->Kt α->Prop
noncomputable def Cw.pure{α:Type}(a:α):Cw α:=λw sc k=>k a w sc
noncomputable def Cw.bind{α β:Type}(c:Cw α)(d:α->Cw β):Cw β:=λw sc k=>c w sc λx w sc=>d x w sc k
noncomputable def Cw.v(o:Option V):Cw V:=λw sc k=>askV o sc λx sc=>k x w sc
noncomputable def Cw.t(o:Option Bool):Cw Bool:=λw sc k=>askT o sc λx sc=>k x w sc
noncomputable def Cw.l(o:Option (List V)):Cw (List V):=λw sc k=>askL o sc λx sc=>k x w sc
noncomputable def Cw.r(o:Option Env'):Cw Env':=λw sc k=>askR o sc λx sc=>k x w sc
noncomputable def Cw.m(m:M V):Cw V:=λw sc k=>askM m w sc k
noncomputable def askX(m:M V)(auto:Cw V):Cw V:=λw sc k=>match sc with
 |.y 0 x r=>m=M.pure x/\k x w r
 |.y (n+1) x r=>auto w (.y n x r) k
 |sc=>auto w sc k
noncomputable def Cw.f{α:Type}:Cw α:=λ_ _ _=>False
noncomputable def Cw.c{α:Type}(t:Bool)(a b:Cw α):Cw α:=λw sc k=>askB t sc (λsc=>a w sc k) (λsc=>b w sc k)
noncomputable def Cw.lst(v:V):Cw (List V):=match v with
 |.lst xs=>Cw.pure xs
 |_=>Cw.f
noncomputable def Cw.ext(xs:List V)(v:V):Cw (List V):=match v with
 |.tup ys=>Cw.c (decide (xs.length+ys.length<=lim)) (Cw.pure (xs++ys)) Cw.f
 |_=>Cw.f
section
variable(Φ:Nat->List V->M V)
mutual
noncomputable def wE(e:E)(ρ:Env'):Cw V:=match e with
 |.none=>Cw.pure .none
 |.bool b=>Cw.pure (.bool b)
 |.int b=>Cw.pure (.int b)
 |.str b=>Cw.pure (.str b)
 |.loc i=>Cw.v (getV ρ i)
 |.glob _ v=>Cw.pure v
 |.bin op a b=>(wE a ρ).bind λx=>(wE b ρ).bind λy=>Cw.v (binV op x y)
 |.not a=>(wE a ρ).bind λx=>(Cw.t x.truth).bind λt=>Cw.pure (.bool (!t))
 |.boo b es=>askX (evE Φ ρ (.boo b es)) (wB es b ρ)
 |.cmp op a b=>(wE a ρ).bind λx=>(wE b ρ).bind λy=>(Cw.t (cmpV op x y)).bind λt=>Cw.pure (.bool t)
 |.ite t a b=>askX (evE Φ ρ (.ite t a b)) ((wE t ρ).bind λx=>(Cw.t x.truth).bind λc=>Cw.c c (wE a ρ) (wE b ρ))
 |.tup es=>(wEs es ρ).bind λxs=>Cw.v (mkTup xs)
 |.lst es=>(wEs es ρ).bind λxs=>Cw.v (mkLst xs)
 |.sub a i=>(wE a ρ).bind λx=>(wE i ρ).bind λy=>Cw.v (subV x y)
 |.subO i e=>(Cw.l (getO ρ i)).bind λxs=>(wE e ρ).bind λy=>Cw.v (subV (.lst xs) y)
 |.slcL a lo=>(wE a ρ).bind λx=>(wE lo ρ).bind λl=>Cw.v (slcLV x l)
 |.slcH a hi=>(wE a ρ).bind λx=>(wE hi ρ).bind λl=>Cw.v (slcHV x l)
 |.dget _ d e=>(wE e ρ).bind λx=>Cw.v (dgetV d x)
 |.dnin _ d e=>(wE e ρ).bind λx=>(Cw.t (dninV d x)).bind λt=>Cw.pure (.bool t)
 |.call f es=>(wEs es ρ).bind λxs=>Cw.m (Φ f xs)
 |.bif b es=>(wEs es ρ).bind λxs=>Cw.v (bifV b xs)
 |e=>Cw.m (evE Φ ρ e)
noncomputable def wEs(es:Es)(ρ:Env'):Cw (List V):=match es with
 |.nil=>Cw.pure []
 |.cons e r=>(wE e ρ).bind λx=>(wEs r ρ).bind λxs=>Cw.pure (x::xs)
noncomputable def wB(es:Es)(b:Bool)(ρ:Env'):Cw V:=match es with
 |.nil=>Cw.f
 |.cons e .nil=>wE e ρ
 |.cons e (.cons e' r)=>(wE e ρ).bind λx=>(Cw.t x.truth).bind λt=>match b with
  |true=>Cw.c t (wB (.cons e' r) true ρ) (Cw.pure x)
  |false=>Cw.c t (Cw.pure x) (wB (.cons e' r) false ρ)
end
end
theorem M.bind_at{α β:Type}{m:M α}{f:α->M β}{w q:Option W}{a:α}(h:m w=some (a,q)):(m.bind f) w=f a q:=by unfold M.bind;rw[h]
theorem M.lift_e{α:Type}{o:Option α}{w:Option W}{a:α}(h:o=some a):(M.lift o) w=some (a,w):=by rw[h];rfl
noncomputable def Rl{α:Type}(m:M α)(c:Cw α):Prop:=∀w sc k,c w sc k->∃x q r,m w=some (x,q)/\k x q r
section
variable{α β:Type}
theorem Rl.pure(a:α):Rl (M.pure a) (Cw.pure a):=λ_ _ _ h=>⟨_,_,_,rfl,h⟩
theorem Rl.f{m:M α}:Rl m Cw.f:=λ_ _ _ h=>h.elim
theorem Rl.bind{m:M α}{c:Cw α}{f:α->M β}{d:α->Cw β}(h:Rl m c)(H:∀x,Rl (f x) (d x)):Rl (m.bind f) (c.bind d):=λw sc k q=>by
 obtain⟨x,w1,s1,h1,q⟩:=h _ _ _ q
 obtain⟨y,w2,s2,h2,q⟩:=H x _ _ _ q
 exact⟨y,w2,s2,(M.bind_at h1).trans h2,q⟩
theorem Rl.v(o:Option V):Rl (M.lift o) (Cw.v o):=λw _ _ h=>let⟨x,r,e,q⟩:=askV_ok h;⟨x,w,r,M.lift_e e,q⟩
theorem Rl.t(o:Option Bool):Rl (M.lift o) (Cw.t o):=λw _ _ h=>let⟨x,r,e,q⟩:=askT_ok h;⟨x,w,r,M.lift_e e,q⟩
theorem Rl.l(o:Option (List V)):Rl (M.lift o) (Cw.l o):=λw _ _ h=>let⟨x,r,e,q⟩:=askL_ok h;⟨x,w,r,M.lift_e e,q⟩
theorem Rl.r(o:Option Env'):Rl (M.lift o) (Cw.r o):=λw _ _ h=>let⟨x,r,e,q⟩:=askR_ok h;⟨x,w,r,M.lift_e e,q⟩
theorem Rl.m(m:M V):Rl m (Cw.m m):=λ_ _ _ h=>askM_ok h
theorem Rl.x{m:M V}{c:Cw V}(h:Rl m c):Rl m (askX m c):=λw sc k q=>by
 cases sc with
 |y n x r=>cases n with
  |zero=>exact⟨x,w,r,congrFun q.1 w,q.2⟩
  |succ n=>exact h _ _ _ q
 |_=>exact h _ _ _ q
theorem Rl.c{m1 m2:M α}{c1 c2:Cw α}(h1:Rl m1 c1)(h2:Rl m2 c2):∀t:Bool,Rl (if t=true then m1 else m2) (Cw.c t c1 c2):=λt w sc k h=>by
 obtain⟨s,⟨rfl,q⟩|⟨rfl,q⟩⟩:=askB_ok h
 ·exact h1 _ _ _ q
 ·exact h2 _ _ _ q
theorem Rl.g{p:Prop}[d:Decidable p](x:α):Rl (M.lift (if p then some x else Option.none)) (Cw.c (decide p) (Cw.pure x) Cw.f):=λw sc k h=>by
 obtain⟨s,⟨e,h⟩|⟨_,h⟩⟩:=askB_ok h
 ·exact⟨x,w,s,M.lift_e (if_pos (of_decide_eq_true e)),h⟩
 ·exact h.elim
theorem Rl.lst(v:V):Rl (M.lift (lstV v)) (Cw.lst v):=by
 cases v with
 |lst xs=>exact Rl.pure xs
 |_=>exact Rl.f
theorem Rl.ext(xs:List V)(v:V):Rl (M.lift (extV xs v)) (Cw.ext xs v):=by
 cases v with
 |tup ys=>exact Rl.g (xs++ys)
 |_=>exact Rl.f
end
section
variable{Φ:Nat->List V->M V}
noncomputable def RE(Φ:Nat->List V->M V)(e:E):Prop:=∀ρ,Rl (evE Φ ρ e) (wE Φ e ρ)
noncomputable def REs(Φ:Nat->List V->M V)(es:Es):Prop:=(∀ρ,Rl (evs Φ ρ es) (wEs Φ es ρ))/\∀b ρ,Rl (evB Φ ρ b es) (wB Φ es b ρ)
theorem re_cons:∀(e:E)(r:Es),RE Φ e->REs Φ r->REs Φ (.cons e r)
 |e,.nil,he,hr=>⟨λρ=>.bind (he ρ) λx=>.bind (hr.1 ρ) λxs=>.pure _,λb ρ=>he ρ⟩
 |e,.cons e' r,he,hr=>⟨λρ=>.bind (he ρ) λx=>.bind (hr.1 ρ) λxs=>.pure _,λb ρ=>.bind (he ρ) λx=>.bind (.t _) λt=>match b,t with
  |true,t=>by cases t<;>exact Rl.c (m2:=M.pure x) (hr.2 true ρ) (.pure x) _
  |false,t=>λw sc k h=>by
   obtain⟨s,⟨e,h⟩|⟨e,h⟩⟩:=askB_ok h
   ·rw[e];exact⟨_,_,_,rfl,h⟩
   ·rw[e];exact hr.2 false ρ _ _ _ h⟩
theorem wE_ok(e:E):RE Φ e:=E.rec (motive_1:=RE Φ) (motive_2:=REs Φ) (motive_3:=λ_=>True)
 (λρ=>.pure _) (λb ρ=>.pure _) (λb ρ=>.pure _) (λb ρ=>.pure _) (λi ρ=>.v _) (λx v ρ=>.pure _) (λop a b ha hb ρ=>.bind (ha ρ) λx=>.bind (hb ρ) λy=>.v _) (λa _ ρ=>.m _) (λa ha ρ=>.bind (ha ρ) λx=>.bind (.t _) λt=>.pure _)
 (λb es hs ρ=>.x (hs.2 b ρ)) (λop a b ha hb ρ=>.bind (ha ρ) λx=>.bind (hb ρ) λy=>.bind (.t _) λt=>.pure _) (λt a b ht ha hb ρ=>.x (.bind (ht ρ) λx=>.bind (.t _) λc=>.c (ha ρ) (hb ρ) c)) (λes hs ρ=>.bind (hs.1 ρ) λxs=>.v _) (λes hs ρ=>.bind (hs.1 ρ) λxs=>.v _)
 (λa b ha hb ρ=>.bind (ha ρ) λx=>.bind (hb ρ) λy=>.v _) (λi e he ρ=>.bind (.l _) λxs=>.bind (he ρ) λy=>.v _) (λa b ha hb ρ=>.bind (ha ρ) λx=>.bind (hb ρ) λy=>.v _) (λa b ha hb ρ=>.bind (ha ρ) λx=>.bind (hb ρ) λy=>.v _) (λa b c _ _ _ ρ=>.m _) (λp k _ _ ρ=>.m _)
 (λx d e he ρ=>.bind (he ρ) λx=>.v _) (λx d e y _ _ ρ=>.m _) (λx d e he ρ=>.bind (he ρ) λx=>.bind (.t _) λt=>.pure _) (λf es hs ρ=>.bind (hs.1 ρ) λxs=>.m _) (λb es hs ρ=>.bind (hs.1 ρ) λxs=>.v _) (λa _ ρ=>.m _) (λa _ ρ=>.m _) (λi f ρ=>.m _) (λi ρ=>.m _) (λj a b c _ _ _ ρ=>.m _)
 ⟨λρ=>.pure _,λb ρ=>.f⟩ re_cons trivial (λ_ _ _ _ _ _=>trivial) e
end
noncomputable abbrev Kn:=Env'->Option W->Sc->Prop
noncomputable abbrev Kr:=V->Env'->Option W->Sc->Prop
noncomputable def fork(f:Fl)(x:Env')(w:Option W)(sc:Sc)(kr:Kr)(kn:Kn):Prop:=match f with
 |.next=>kn x w sc
 |.ret v=>kr v x w sc
noncomputable abbrev Ct:=Option W->Sc->Kr->Kn->Prop
noncomputable def Ct.next(ρ:Env'):Ct:=λw sc kr kn=>kn ρ w sc
noncomputable def Ct.ret(v:V)(ρ:Env'):Ct:=λw sc kr kn=>kr v ρ w sc
noncomputable def Ct.of{α:Type}(c:Cw α)(d:α->Ct):Ct:=λw sc kr kn=>c w sc λx w sc=>d x w sc kr kn
noncomputable def Ct.c(t:Bool)(a b:Ct):Ct:=λw sc kr kn=>askB t sc (λsc=>a w sc kr kn) (λsc=>b w sc kr kn)
noncomputable def Ct.seq(a:Ct)(b:Env'->Ct):Ct:=λw sc kr kn=>a w sc kr λρ w sc=>b ρ w sc kr kn
noncomputable def loopW(body:V->Env'->Ct)(xs:List V)(ρ:Env'):Ct:=match xs with
 |[]=>Ct.next ρ
 |x::r=>(body x ρ).seq λρ=>loopW body r ρ
noncomputable def autS(o:Option ((Fl×Env')×Option W))(sc:Sc)(kr:Kr)(kn:Kn):Prop:=match o with
 |some ((f,x),w)=>fork f x w sc kr kn
 |Option.none=>False
noncomputable def askS(m:M (Fl×Env'))(auto:Ct):Ct:=λw sc kr kn=>match sc with
 |.q 0 f x r=>m=M.pure (f,x)/\fork f x w r kr kn
 |.z 0 f x w' r=>m w=some ((f,x),w')/\fork f x w' r kr kn
 |sc=>auto w sc.dec kr kn
noncomputable def askI(m:M (Fl×Env'))(auto:Ct):Ct:=λw sc kr kn=>match sc with
 |.k 0 f x w' r=>m w=some ((f,x),w')/\fork f x w' r kr kn
 |.k (n+1) f x w' r=>auto w (.k n f x w' r) kr kn
 |sc=>auto w sc kr kn
noncomputable def othS(m:M (Fl×Env')):Ct:=askS m λw sc kr kn=>autS (m w) sc kr kn
section
variable(Φ:Nat->List V->M V)
mutual
noncomputable def wS(s:S)(ρ:Env'):Ct:=match s with
 |.asg i e=>Ct.of (wE Φ e ρ) λv=>Ct.next (ρ.set i (.val v))
 |.asgC i j elt iter conds=>Ct.of (wE Φ (.comp j elt iter conds) ρ) λv=>Ct.next (ρ.set i (.val v))
 |.cmpO i j elt iter conds=>Ct.of (wE Φ (.comp j elt iter conds) ρ) λv=>Ct.of (Cw.lst v) λxs=>Ct.next (ρ.set i (.own xs))
 |.newO i=>Ct.next (ρ.set i (.own []))
 |.frz i=>Ct.of (Cw.l (getO ρ i)) λxs=>Ct.next (ρ.set i (.val (.lst xs)))
 |.unp is e=>Ct.of (wE Φ e ρ) λv=>Ct.of (Cw.r (unpV is v ρ)) λρ=>Ct.next ρ
 |.aug i op e=>Ct.of (Cw.v (getV ρ i)) λx=>Ct.of (wE Φ e ρ) λy=>Ct.of (Cw.v (augV op x y)) λz=>Ct.next (ρ.set i (.val z))
 |.setO i n e=>Ct.of (wE Φ e ρ) λv=>Ct.of (Cw.l (getO ρ i)) λxs=>Ct.of (wE Φ n ρ) λy=>Ct.of (Cw.l (setV xs y v)) λys=>Ct.next (ρ.set i (.own ys))
 |.appO i e=>Ct.of (Cw.l (getO ρ i)) λxs=>Ct.of (wE Φ e ρ) λv=>Ct.of (Cw.c (decide (xs.length<lim)) (Cw.pure (xs++[v])) Cw.f) λys=>Ct.next (ρ.set i (.own ys))
 |.extO i e=>Ct.of (Cw.l (getO ρ i)) λxs=>Ct.of (wE Φ e ρ) λv=>Ct.of (Cw.ext xs v) λys=>Ct.next (ρ.set i (.own ys))
 |.expr e=>Ct.of (wE Φ e ρ) λ_=>Ct.next ρ
 |.ifS t a b=>askI (evS Φ ρ (.ifS t a b)) (Ct.of (wE Φ t ρ) λx=>Ct.of (Cw.t x.truth) λc=>Ct.c c (wSs a ρ) (wSs b ρ))
 |.forS i e b=>Ct.of (wE Φ e ρ) λx=>Ct.of (Cw.l (itemsV x)) λxs=>askS (loopL (λv ρ=>evSs Φ (ρ.set i (.val v)) b) xs ρ) (loopW (λv ρ=>wSs b (ρ.set i (.val v))) xs ρ)
 |.ret e=>Ct.of (wE Φ e ρ) λv=>Ct.ret v ρ
 |.raise=>λ_ _ _ _=>False
 |s=>othS (evS Φ ρ s)
noncomputable def wSs(b:Ss)(ρ:Env'):Ct:=match b with
 |.nil=>Ct.next ρ
 |.cons s r=>(wS s ρ).seq λρ=>wSs r ρ
end
end
noncomputable def Rt(m:M (Fl×Env'))(c:Ct):Prop:=∀w sc kr kn,c w sc kr kn->∃p q r,m w=some (p,q)/\fork p.1 p.2 q r kr kn
theorem Rt.next(ρ:Env'):Rt (M.pure (.next,ρ)) (Ct.next ρ):=λ_ _ _ _ h=>⟨_,_,_,rfl,h⟩
theorem Rt.ret(v:V)(ρ:Env'):Rt (M.pure (.ret v,ρ)) (Ct.ret v ρ):=λ_ _ _ _ h=>⟨_,_,_,rfl,h⟩
theorem Rt.of{α:Type}{m:M α}{c:Cw α}{f:α->M (Fl×Env')}{d:α->Ct}(h:Rl m c)(H:∀x,Rt (f x) (d x)):Rt (m.bind f) (Ct.of c d):=λw sc kr kn q=>by
 obtain⟨x,w1,s1,h1,q⟩:=h _ _ _ q
 obtain⟨y,w2,s2,h2,q⟩:=H x _ _ _ _ q
 exact⟨y,w2,s2,(M.bind_at h1).trans h2,q⟩
theorem Rt.c{m1 m2:M (Fl×Env')}{c1 c2:Ct}(h1:Rt m1 c1)(h2:Rt m2 c2)(t:Bool):Rt (if t=true then m1 else m2) (Ct.c t c1 c2):=λw sc kr kn h=>by
 obtain⟨s,⟨rfl,q⟩|⟨rfl,q⟩⟩:=askB_ok h
 ·exact h1 _ _ _ _ q
 ·exact h2 _ _ _ _ q
theorem Rt.seq{m:M (Fl×Env')}{c:Ct}{f:Env'->M (Fl×Env')}{d:Env'->Ct}(h:Rt m c)(H:∀ρ,Rt (f ρ) (d ρ)):Rt (m.bind λp=>match p.1 with|.next=>f p.2|.ret v=>M.pure (.ret v,p.2)) (c.seq d):=λw sc kr kn q=>by
 obtain⟨⟨fl,ρ⟩,w1,s1,h1,q⟩:=h _ _ _ _ q
 cases fl with
 |next=>
  obtain⟨y,w2,s2,h2,q⟩:=H ρ _ _ _ _ q
  exact⟨y,w2,s2,(M.bind_at h1).trans h2,q⟩
 |ret v=>exact⟨_,w1,s1,(M.bind_at h1).trans rfl,q⟩
theorem Rt.ask{m:M (Fl×Env')}{auto:Ct}(ha:Rt m auto):Rt m (askS m auto):=λw sc kr kn h=>by
 cases sc with
 |q n f x r=>cases n with
  |zero=>exact⟨_,w,r,congrFun h.1 w,h.2⟩
  |succ n=>exact ha _ _ _ _ h
 |z n f x w' r=>cases n with
  |zero=>exact⟨_,w',r,h.1,h.2⟩
  |succ n=>exact ha _ _ _ _ h
 |_=>exact ha _ _ _ _ h
theorem Rt.i{m:M (Fl×Env')}{auto:Ct}(ha:Rt m auto):Rt m (askI m auto):=λw sc kr kn h=>by
 cases sc with
 |k n f x w' r=>cases n with
  |zero=>exact⟨_,w',r,h.1,h.2⟩
  |succ n=>exact ha _ _ _ _ h
 |_=>exact ha _ _ _ _ h
theorem Rt.oth(m:M (Fl×Env')):Rt m (othS m):=.ask λw sc kr kn h=>by
 cases e:m w with
 |none=>rw[e]at h;exact h.elim
 |some p=>rw[e]at h;exact⟨p.1,p.2,sc,rfl,h⟩
theorem Rt.loop{B:V->Env'->M (Fl×Env')}{body:V->Env'->Ct}(hb:∀v ρ,Rt (B v ρ) (body v ρ)):∀(xs:List V)(ρ:Env'),Rt (loopL B xs ρ) (loopW body xs ρ)
 |[],ρ=>.next ρ
 |x::r,ρ=>.seq (hb x ρ) λρ=>Rt.loop hb r ρ
section
variable{Φ:Nat->List V->M V}
noncomputable def RS(Φ:Nat->List V->M V)(s:S):Prop:=∀ρ,Rt (evS Φ ρ s) (wS Φ s ρ)
noncomputable def RSs(Φ:Nat->List V->M V)(s:Ss):Prop:=∀ρ,Rt (evSs Φ ρ s) (wSs Φ s ρ)
theorem wSs_ok(b:Ss):RSs Φ b:=Ss.rec (motive_1:=RS Φ) (motive_2:=RSs Φ) (λi e ρ=>.of (wE_ok e ρ) λv=>.next _) (λi j a b c ρ=>.of (wE_ok (.comp j a b c) ρ) λv=>.next _) (λi j a b c ρ=>.of (wE_ok (.comp j a b c) ρ) λv=>.of (.lst v) λxs=>.next _) (λi ρ=>.next _) (λi e ρ=>.oth _)
 (λi ρ=>.of (.l _) λxs=>.next _) (λis e ρ=>.of (wE_ok e ρ) λv=>.of (.r _) λρ=>.next ρ) (λi op e ρ=>.of (.v _) λx=>.of (wE_ok e ρ) λy=>.of (.v _) λz=>.next _) (λi n e ρ=>.of (wE_ok e ρ) λv=>.of (.l _) λxs=>.of (wE_ok n ρ) λy=>.of (.l _) λys=>.next _)
 (λi e ρ=>.of (.l _) λxs=>.of (wE_ok e ρ) λv=>.of (.g _) λys=>.next _) (λi e ρ=>.of (.l _) λxs=>.of (wE_ok e ρ) λv=>.of (.ext xs v) λys=>.next _) (λi f e ρ=>.oth _) (λi e ρ=>.oth _) (λi j ρ=>.oth _) (λi a b c ρ=>.oth _) (λe ρ=>.of (wE_ok e ρ) λv=>.next _)
 (λt a b ha hb ρ=>.i (.of (wE_ok t ρ) λx=>.of (.t _) λc=>.c (ha ρ) (hb ρ) c)) (λi e b hb ρ=>.of (wE_ok e ρ) λx=>.of (.l _) λxs=>.ask (.loop (λv ρ=>hb _) xs ρ)) (λi j e b hb ρ=>.oth _) (λe ρ=>.of (wE_ok e ρ) λv=>.ret v ρ) (λρ _ _ _ _ h=>h.elim)
 (λρ=>.next ρ) (λs r hs hr ρ=>.seq (hs ρ) hr) b
end
noncomputable def wRun(Φ:Nat->List V->M V)(b:Ss)(ρ:Env')(w:Option W)(sc:Sc)(r:V)(w':Option W):Prop:=
 wSs Φ b ρ w sc (λv _ q _=>(v,q)=(r,w')) (λ_ q _=>(V.none,q)=(r,w'))
theorem wRun_ok{Φ:Nat->List V->M V}{b:Ss}{ρ:Env'}{w:Option W}{sc:Sc}{r:V}{w':Option W}(h:wRun Φ b ρ w sc r w'):
  ((evSs Φ ρ b).bind λp=>match p.1 with|.ret v=>M.pure v|.next=>M.pure .none) w=some (r,w'):=by
 obtain⟨⟨f,ρ'⟩,q,s,h1,h2⟩:=wSs_ok b ρ _ _ _ _ h
 refine(M.bind_at h1).trans ?_
 cases f with
 |next=>exact congrArg some h2
 |ret v=>exact congrArg some h2
theorem oC{n f:Nat}{xs:List V}{r:V}(d:Fn)(sc:Sc){P:Option W->Prop}(p:∀w,(r,w)=(r,w)->P w)
  (e:P=λw=>wRun (run fns n) d.body (xs.map Slot.val++List.replicate (d.names.length-d.np) Slot.none) w sc r w:=by kernel_rfl)(hd:fns f=some d:=by rfl)(hl:xs.length=d.np:=by rfl):run fns (n+1) f xs=M.pure r:=by
 funext w
 rw[run_suc,hd];simp only[hl,if_true]
 have:=p w rfl
 rw[e]at this
 exact wRun_ok this
theorem oCW{n f:Nat}{xs:List V}{r:V}{w w':Option W}(d:Fn)(sc:Sc){P:Prop}(p:(r,w')=(r,w')->P)
  (e:P=wRun (run fns n) d.body (xs.map Slot.val++List.replicate (d.names.length-d.np) Slot.none) w sc r w':=by kernel_rfl)(hd:fns f=some d:=by rfl)(hl:xs.length=d.np:=by rfl):run fns (n+1) f xs w=some (r,w'):=by
 rw[run_suc,hd];simp only[hl,if_true]
 exact wRun_ok (e▸p rfl)
theorem oB{Φ:Nat->List V->M V}{ρ:Env'}{b:Ss}{r:V}(sc:Sc){P:Option W->Prop}(p:∀w,(r,w)=(r,w)->P w)(e:P=λw=>wRun Φ b ρ w sc r w:=by kernel_rfl):bodyR Φ ρ b=M.pure r:=by
 funext w
 have:=p w rfl
 rw[e]at this
 exact wRun_ok this
noncomputable def wEnd(Φ:Nat->List V->M V)(b:Ss)(ρ:Env')(w:Option W)(sc:Sc)(r:Fl×Env')(w':Option W):Prop:=
 wSs Φ b ρ w sc (λv x q _=>((Fl.ret v,x),q)=(r,w')) (λx q _=>((Fl.next,x),q)=(r,w'))
theorem wEnd_ok{Φ:Nat->List V->M V}{b:Ss}{ρ:Env'}{w:Option W}{sc:Sc}{r:Fl×Env'}{w':Option W}(h:wEnd Φ b ρ w sc r w'):evSs Φ ρ b w=some (r,w'):=by
 obtain⟨⟨f,ρ'⟩,q,s,h1,h2⟩:=wSs_ok b ρ _ _ _ _ h
 refine h1.trans ?_
 cases f with
 |next=>exact congrArg some h2
 |ret v=>exact congrArg some h2
theorem oS{Φ:Nat->List V->M V}{ρ:Env'}{b:Ss}{r:Fl×Env'}(sc:Sc){P:Option W->Prop}(p:∀w,(r,w)=(r,w)->P w)(e:P=λw=>wEnd Φ b ρ w sc r w:=by kernel_rfl):evSs Φ ρ b=M.pure r:=by
 funext w
 have:=p w rfl
 rw[e]at this
 exact wEnd_ok this
theorem oSW{Φ:Nat->List V->M V}{ρ:Env'}{b:Ss}{r:Fl×Env'}{w w':Option W}(sc:Sc){P:Prop}(p:(r,w')=(r,w')->P)(e:P=wEnd Φ b ρ w sc r w':=by kernel_rfl):evSs Φ ρ b w=some (r,w'):=wEnd_ok (e▸p rfl)
theorem oE{Φ:Nat->List V->M V}{ρ:Env'}{b:E}{r:V}(sc:Sc){P:Option W->Prop}(p:∀w,(r,w)=(r,w)->P w)(e:P=λw=>wE Φ b ρ w sc λx q _=>(x,q)=(r,w):=by kernel_rfl):evE Φ ρ b=M.pure r:=by
 funext w
 have:=p w rfl
 rw[e]at this
 obtain⟨x,q,s,h1,h2⟩:=wE_ok b ρ _ _ _ this
 exact h1.trans (congrArg some h2)
theorem es1{Φ:Nat->List V->M V}{ρ:Env'}{s:S}{σ:Option W}{r:(Fl×Env')×Option W}(h:evSs Φ ρ (.cons s .nil) σ=some r):evS Φ ρ s σ=some r:=by
 revert h
 show M.bind (evS Φ ρ s) _ σ=_->_
 unfold M.bind
 cases evS Φ ρ s σ with
 |none=>exact id
 |some p=>obtain⟨⟨f,x⟩,q⟩:=p;cases f<;>exact id
noncomputable def Ss.tl(b:Ss):Ss:=match b with
 |.cons _ r=>r
 |.nil=>.nil
noncomputable def Ss.hd(b:Ss):S:=match b with
 |.cons s _=>s
 |.nil=>.raise
noncomputable def S.bod(s:S):Ss:=match s with
 |.forS _ _ b=>b
 |_=>.nil
noncomputable def S.ex(s:S):E:=match s with
 |.wapp _ e=>e
 |.ifS e _ _=>e
 |_=>.none
noncomputable def S.asE(s:S):E:=match s with
 |.asg _ e=>e
 |_=>.none
theorem bo2{Φ:Nat->List V->M V}{ρ:Env'}{e1 e2:E}{b1 b2 r:Bool}(h1:evE Φ ρ e1=M.pure (.bool b1))(h2:evE Φ ρ e2=M.pure (.bool b2))(h:(b1&&b2)=r):evE Φ ρ (.boo true (.cons e1 (.cons e2 .nil)))=M.pure (.bool r):=by
 show(evE Φ ρ e1).bind _=_
 rw[h1,←h]
 cases b1
 ·rfl
 ·exact h2
theorem bo2o{Φ:Nat->List V->M V}{ρ:Env'}{e1 e2:E}{b1 b2 r:Bool}(h1:evE Φ ρ e1=M.pure (.bool b1))(h2:evE Φ ρ e2=M.pure (.bool b2))(h:(b1||b2)=r):evE Φ ρ (.boo false (.cons e1 (.cons e2 .nil)))=M.pure (.bool r):=by
 show(evE Φ ρ e1).bind _=_
 rw[h1,←h]
 cases b1
 ·exact h2
 ·rfl
theorem bo3{Φ:Nat->List V->M V}{ρ:Env'}{e1 e2 e3:E}{b1 b2 b3 r:Bool}(h1:evE Φ ρ e1=M.pure (.bool b1))(h2:evE Φ ρ e2=M.pure (.bool b2))(h3:evE Φ ρ e3=M.pure (.bool b3))(h:(b1&&(b2&&b3))=r):evE Φ ρ (.boo true (.cons e1 (.cons e2 (.cons e3 .nil))))=M.pure (.bool r):=by
 show(evE Φ ρ e1).bind _=_
 rw[h1,←h]
 cases b1
 ·rfl
 ·exact bo2 h2 h3 rfl
theorem bo4{Φ:Nat->List V->M V}{ρ:Env'}{e1 e2 e3 e4:E}{b1 b2 b3 b4 r:Bool}(h1:evE Φ ρ e1=M.pure (.bool b1))(h2:evE Φ ρ e2=M.pure (.bool b2))(h3:evE Φ ρ e3=M.pure (.bool b3))(h4:evE Φ ρ e4=M.pure (.bool b4))(h:(b1&&(b2&&(b3&&b4)))=r):evE Φ ρ (.boo true (.cons e1 (.cons e2 (.cons e3 (.cons e4 .nil)))))=M.pure (.bool r):=by
 show(evE Φ ρ e1).bind _=_
 rw[h1,←h]
 cases b1
 ·rfl
 ·exact bo3 h2 h3 h4 rfl
theorem ai{A B:Prop}(a:A)(b:B):A/\B:=⟨a,b⟩
theorem sm{a b:Bool}(h:a=b):some a=some b:=congrArg some h
theorem nt{a b:Bool}(h:a=b):some (!a)=some (!b):=congrArg (λx=>some (!x)) h
section
variable{p:Prop}[d:Decidable p]
theorem dt(h:p):decide p=true:=decide_eq_true h
theorem sd(h:p):some (decide p)=some true:=congrArg some (decide_eq_true h)
theorem sn(h:¬p):some (decide p)=some false:=congrArg some (decide_eq_false h)
end
theorem beq_ii(a b:Int):(V.int a).beq (.int b)=(a==b):=rfl
theorem beq_bb(a b:Bool):(V.bool a).beq (.bool b)=(a==b):=rfl
theorem beq_ss(a b:Str):(V.str a).beq (.str b)=(a==b):=rfl
end
section
open PySem
section
variable{k c a lo hi:Int}{v:V}{r:List V}{s:Str}(n:Nat)
theorem known_K(h:(k==15)=false):run fns (n+1) 16 [.tup [.int 1,.int k,v]]=M.pure (.bool true):=by
 exact oC fknown (.b 7 true .e) (λ_ ez=>ai (nt h)<|ez)
theorem known_B:run fns (n+1) 16 [.tup [.int 1,.int 15,v]]=M.pure (.bool false):=by
 refine(run_b n 16 _ (d:=fknown) rfl rfl).trans ?_
 exact oB .e (λ_ ez=>ez)
theorem known_O(h:(c==1)=false):run fns (n+1) 16 [.tup (.int c::r)]=M.pure (.bool false):=by
 exact oC fknown (.b 2 false .e) (λ_ ez=>ai (sm h)<|ez)
theorem is_number_T(h1:2<=k)(h2:k<=10):run fns (n+1) 1 [.int k]=M.pure (.bool true):=by
 exact oC fis_number (.b 1 true<|.b 3 true .e) (λ_ ez=>ai (sd h1)<|ai (sd h2)<|ez)
theorem int_range_(h:dictGet dINT_RANGES k=some v):run fns (n+1) 0 [.int k]=M.pure v:=by
 exact oC fint_range (.b 1 false<|.v 3 (v) .e) (λ_ ez=>ai (by simp only[h,Option.isNone_some]:some (Option.isNone (dictGet dINT_RANGES k))=some false)<|ai h<|ez)
theorem cut_(h:dictGet dINT_RANGES k=some (.tup [.int lo,.int hi]))(h2:hi-lo+1≠0):run fns (n+2) 5 [.int k,.int a]=M.pure (.int (lo+(a-lo).fmod (hi-lo+1))):=by
 exact oC fcut (.m 1 (V.tup [V.int lo,V.int hi])<|.v 9 (V.int (Int.fmod (a-lo) (hi-lo+1))) .e) (λ_ ez=>ai (int_range_ n h)<|ai (bmod h2 (a:=a-lo))<|ez)
theorem in_range_(h:dictGet dINT_RANGES k=some (.tup [.int lo,.int hi])):run fns (n+2) 6 [.int k,.int a]=M.pure (.bool (decide (lo<=a)&&decide (a<=hi))):=by
 refine(run_b (n+1) 6 _ (d:=fin_range) rfl rfl).trans ?_
 cases hc0:decide (lo<=a)
 ·exact(show _=M.pure (V.bool false)from oB (.m 1 (V.tup [V.int lo,V.int hi])<|.b 3 false .e) (λ_ ez=>ai (int_range_ n h)<|ai (sm hc0)<|ez)).trans (congrArg M.pure (by simp only[Bool.false_and]))
 ·exact(show _=M.pure (V.bool (decide (a<=hi)))from oB (.m 1 (V.tup [V.int lo,V.int hi])<|.b 3 true .e) (λ_ ez=>ai (int_range_ n h)<|ai (sm hc0)<|ez)).trans (congrArg M.pure (by simp only[Bool.true_and]))
theorem fold_width_:run fns (n+1) 7 [.int k]=M.pure (.int (if(k==9||k==10)=true then 64 else 32)):=by
 refine(run_b n 7 _ (d:=ffold_width) rfl rfl).trans ?_
 cases hc0:(k==9)<;>cases hc1:(k==10)
 ·exact(show _=M.pure (V.int 32)from oB (.b 1 false<|.b 3 false .e) (λ_ ez=>ai (sm hc0)<|ai (sm hc1)<|ez)).trans (congrArg M.pure rfl)
 ·exact(show _=M.pure (V.int 64)from oB (.b 1 false<|.b 3 true .e) (λ_ ez=>ai (sm hc0)<|ai (sm hc1)<|ez)).trans (congrArg M.pure rfl)
 ·exact(show _=M.pure (V.int 64)from oB (.b 1 true .e) (λ_ ez=>ai (sm hc0)<|ez)).trans (congrArg M.pure rfl)
 ·exact(show _=M.pure (V.int 64)from oB (.b 1 true .e) (λ_ ez=>ai (sm hc0)<|ez)).trans (congrArg M.pure rfl)
section
variable{x y:V}{t:Bool}{b q:Int}
noncomputable def b2i(b:Bool):Int:=if b=true then 1 else 0
theorem cmp_eq(h:cmpV .Eq x y=some t):run fns (n+1) 8 [.str (Str.ofString "=="),x,y]=M.pure (.int (b2i t)):=by
 refine(run_b n 8 _ (d:=ffold_compare) rfl rfl).trans ?_
 cases t
 ·exact oB (.b 6 false .e) (λ_ ez=>ai h<|ez)
 ·exact oB (.b 6 true .e) (λ_ ez=>ai h<|ez)
theorem cmp_ne(h:cmpV .NotEq x y=some t):run fns (n+1) 8 [.str (Str.ofString "!="),x,y]=M.pure (.int (b2i t)):=by
 refine(run_b n 8 _ (d:=ffold_compare) rfl rfl).trans ?_
 cases t
 ·exact oB (.b 10 false .e) (λ_ ez=>ai h<|ez)
 ·exact oB (.b 10 true .e) (λ_ ez=>ai h<|ez)
theorem cmp_lt:run fns (n+1) 8 [.str (Str.ofString "<"),.int a,.int b]=M.pure (.int (b2i (decide (a<b)))):=by
 refine(run_b n 8 _ (d:=ffold_compare) rfl rfl).trans ?_
 cases hc0:decide (a<b)
 ·exact oB (.b 14 false .e) (λ_ ez=>ai (sm hc0)<|ez)
 ·exact oB (.b 14 true .e) (λ_ ez=>ai (sm hc0)<|ez)
theorem cmp_le:run fns (n+1) 8 [.str (Str.ofString "<="),.int a,.int b]=M.pure (.int (b2i (decide (a<=b)))):=by
 refine(run_b n 8 _ (d:=ffold_compare) rfl rfl).trans ?_
 cases hc0:decide (a<=b)
 ·exact oB (.b 18 false .e) (λ_ ez=>ai (sm hc0)<|ez)
 ·exact oB (.b 18 true .e) (λ_ ez=>ai (sm hc0)<|ez)
theorem cmp_gt:run fns (n+1) 8 [.str (Str.ofString ">"),.int a,.int b]=M.pure (.int (b2i (decide (b<a)))):=by
 refine(run_b n 8 _ (d:=ffold_compare) rfl rfl).trans ?_
 cases hc0:decide (b<a)
 ·exact oB (.b 22 false .e) (λ_ ez=>ai (sm hc0)<|ez)
 ·exact oB (.b 22 true .e) (λ_ ez=>ai (sm hc0)<|ez)
theorem cmp_ge:run fns (n+1) 8 [.str (Str.ofString ">="),.int a,.int b]=M.pure (.int (b2i (decide (b<=a)))):=by
 refine(run_b n 8 _ (d:=ffold_compare) rfl rfl).trans ?_
 cases hc0:decide (b<=a)
 ·exact oB (.b 22 false .e) (λ_ ez=>ai (sm hc0)<|ez)
 ·exact oB (.b 22 true .e) (λ_ ez=>ai (sm hc0)<|ez)
theorem bits_and:run fns (n+1) 9 [.str (Str.ofString "&"),.int a,.int b]=M.pure (.int (Builtin.bitAnd a b)):=by
 refine(run_b n 9 _ (d:=ffold_bits) rfl rfl).trans ?_
 exact oB .e (λ_ ez=>ez)
theorem bits_or:run fns (n+1) 9 [.str (Str.ofString "|"),.int a,.int b]=M.pure (.int (Builtin.bitOr a b)):=by
 refine(run_b n 9 _ (d:=ffold_bits) rfl rfl).trans ?_
 exact oB .e (λ_ ez=>ez)
theorem bits_xor:run fns (n+1) 9 [.str (Str.ofString "^"),.int a,.int b]=M.pure (.int (Builtin.bitXor a b)):=by
 refine(run_b n 9 _ (d:=ffold_bits) rfl rfl).trans ?_
 exact oB .e (λ_ ez=>ez)
theorem whole_in(h:dictGet dINT_RANGES k=some (.tup [.int lo,.int hi]))(h1:(decide (lo<=a)&&decide (a<=hi))=true):run fns (n+3) 12 [.int k,.int a,.int c]=M.pure (.tup [.int a,.int 0]):=by
 exact oC ffold_whole (.m 2 (V.bool (decide (lo<=a)&&decide (a<=hi)))<|.b 0 true .e) (λ_ ez=>ai (in_range_ n h (a:=a))<|ai (sm h1)<|ez)
theorem whole_ck(h:dictGet dINT_RANGES k=some (.tup [.int lo,.int hi]))(h1:(decide (lo<=a)&&decide (a<=hi))=false):run fns (n+3) 12 [.int k,.int a,.int 1]=M.pure (.tup [.none,.int 220]):=by
 exact oC ffold_whole (.m 2 (V.bool (decide (lo<=a)&&decide (a<=hi)))<|.b 0 false .e) (λ_ ez=>ai (in_range_ n h (a:=a))<|ai (sm h1)<|ez)
theorem whole_un(h:dictGet dINT_RANGES k=some (.tup [.int lo,.int hi]))(h1:(decide (lo<=a)&&decide (a<=hi))=false)(h2:hi-lo+1≠0):run fns (n+3) 12 [.int k,.int a,.int 0]=M.pure (.tup [.int (lo+(a-lo).fmod (hi-lo+1)),.int 0]):=by
 exact oC ffold_whole (.m 2 (V.bool (decide (lo<=a)&&decide (a<=hi)))<|.b 0 false<|.m 6 (V.int (lo+Int.fmod (a-lo) (hi-lo+1))) .e) (λ_ ez=>ai (in_range_ n h (a:=a))<|ai (sm h1)<|ai (cut_ n h h2 (a:=a))<|ez)
noncomputable def tdivI(a b:Int):Int:=if(decide (a<0)==decide (b<0))=true then((a.natAbs:Int).fdiv b.natAbs)else -((a.natAbs:Int).fdiv b.natAbs)
theorem divide_0:run fns (n+1) 11 [.str s,.int k,.int a,.int 0,.int c]=M.pure (.tup [.none,.int 20]):=by
 refine(run_b n 11 _ (d:=ffold_divide) rfl rfl).trans ?_
 exact oB .e (λ_ ez=>ez)
theorem div_y{Φ:Nat->List V->M V}{o:V}{q:Slot}{r:Bool}(h0:(a==lo&&(b==-1&&decide (lo<0)))=r):evE Φ [.val o,.val (.int k),.val (.int a),.val (.int b),.val (.int c),.val (.int lo),q] (.boo true (.cons (.cmp .Eq (.loc 2) (.loc 5)) (.cons (.cmp .Eq (.loc 3) (.neg (.int 1))) (.cons (.cmp .Lt (.loc 5) (.int 0)) .nil))))=M.pure (.bool r):=
 bo3 rfl rfl rfl h0
theorem divide_ov(h:dictGet dINT_RANGES k=some (.tup [.int lo,.int hi]))(h0:lo<0):run fns (n+2) 11 [.str s,.int k,.int lo,.int (-1),.int c]=M.pure (.tup [.none,.int (if c=0 then 0 else 220)]):=by
 have g:(lo==lo&&((-1:Int)==-1&&decide (lo<0)))=true:=by rw[beq_self_eq_true,decide_eq_true h0];rfl
 by_cases e:c=0
 ·subst e;exact oC ffold_divide (.m 5 (.tup [.int lo,.int hi])<|.y 0 (.bool true) .e) (λ_ ez=>ai (int_range_ n h)<|ai (div_y (o:=.str s) (k:=k) (c:=0) (q:=.none) (Φ:=run fns (n+1)) g) ez)
 ·rw[if_neg e];exact oC ffold_divide (.m 5 (.tup [.int lo,.int hi])<|.y 0 (.bool true)<|.b 4 true .e) (λ_ ez=>ai (int_range_ n h)<|ai (div_y (o:=.str s) (k:=k) (c:=c) (q:=.none) (Φ:=run fns (n+1)) g)<|ai (bne_iff_ne.mpr e) ez)
theorem div_ok(hb:b≠0)(ha:a.natAbs<big)(hb2:b.natAbs<big):binV .FloorDiv (.int (a.natAbs:Int)) (.int (b.natAbs:Int))=some (.int ((a.natAbs:Int).fdiv b.natAbs)):=
 bdiv ⟨by lia,by assumption,by assumption⟩
theorem tdivI_p(h:(!(decide (a<0)==decide (b<0)))=false):tdivI a b=(a.natAbs:Int).fdiv b.natAbs:=if_pos (by rw[Bool.not_eq_false']at h;exact h)
theorem tdivI_n(h:(!(decide (a<0)==decide (b<0)))=true):tdivI a b=-((a.natAbs:Int).fdiv b.natAbs):=if_neg (by rw[Bool.not_eq_true']at h;rw[h];exact Bool.false_ne_true)
theorem divide_q(h:dictGet dINT_RANGES k=some (.tup [.int lo,.int hi]))(hb:b≠0)(h0:(a==lo&&(b==-1&&decide (lo<0)))=false)(ha:a.natAbs<big)(hb2:b.natAbs<big):run fns (n+2) 11 [.str (Str.ofString "/"),.int k,.int a,.int b,.int c]=M.pure (.tup [.int (tdivI a b),.int 0]):=by
 cases e:!(decide (a<0)==decide (b<0))with
 |false=>rw[tdivI_p e];exact oC ffold_divide (.b 3 false<|.m 1 (.tup [.int lo,.int hi])<|.y 0 (.bool false)<|.v 6 (.int ((a.natAbs:Int).fdiv b.natAbs))<|.b 6 false .e) (λ_ ez=>ai (beq_false_of_ne hb)<|ai (int_range_ n h)<|ai (div_y (o:=.str (Str.ofString "/")) (k:=k) (c:=c) (q:=.none) (Φ:=run fns (n+1)) h0)<|ai (div_ok hb ha hb2)<|ai e ez)
 |true=>rw[tdivI_n e];exact oC ffold_divide (.b 3 false<|.m 1 (.tup [.int lo,.int hi])<|.y 0 (.bool false)<|.v 6 (.int ((a.natAbs:Int).fdiv b.natAbs))<|.b 6 true .e) (λ_ ez=>ai (beq_false_of_ne hb)<|ai (int_range_ n h)<|ai (div_y (o:=.str (Str.ofString "/")) (k:=k) (c:=c) (q:=.none) (Φ:=run fns (n+1)) h0)<|ai (div_ok hb ha hb2)<|ai e ez)
theorem divide_r(h:dictGet dINT_RANGES k=some (.tup [.int lo,.int hi]))(hb:b≠0)(h0:(a==lo&&(b==-1&&decide (lo<0)))=false)(ha:a.natAbs<big)(hb2:b.natAbs<big)(hq:(tdivI a b).natAbs<big):run fns (n+2) 11 [.str (Str.ofString "%"),.int k,.int a,.int b,.int c]=M.pure (.tup [.int (a-tdivI a b*b),.int 0]):=by
 have hm:=bmul ⟨hq,hb2⟩
 cases e:!(decide (a<0)==decide (b<0))with
 |false=>rw[tdivI_p e]at hm ⊢;exact oC ffold_divide (.b 3 false<|.m 1 (.tup [.int lo,.int hi])<|.y 0 (.bool false)<|.v 6 (.int ((a.natAbs:Int).fdiv b.natAbs))<|.b 6 false<|.v 7 (.int ((a.natAbs:Int).fdiv b.natAbs*b)) .e) (λ_ ez=>ai (beq_false_of_ne hb)<|ai (int_range_ n h)<|ai (div_y (o:=.str (Str.ofString "%")) (k:=k) (c:=c) (q:=.none) (Φ:=run fns (n+1)) h0)<|ai (div_ok hb ha hb2)<|ai e<|ai hm ez)
 |true=>rw[tdivI_n e]at hm ⊢;exact oC ffold_divide (.b 3 false<|.m 1 (.tup [.int lo,.int hi])<|.y 0 (.bool false)<|.v 6 (.int ((a.natAbs:Int).fdiv b.natAbs))<|.b 6 true<|.v 8 (.int (-((a.natAbs:Int).fdiv b.natAbs)*b)) .e) (λ_ ez=>ai (beq_false_of_ne hb)<|ai (int_range_ n h)<|ai (div_y (o:=.str (Str.ofString "%")) (k:=k) (c:=c) (q:=.none) (Φ:=run fns (n+1)) h0)<|ai (div_ok hb ha hb2)<|ai e<|ai hm ez)
end
end
end
structure Num4(k lo hi wd:Int):Prop where
 rng:dictGet dINT_RANGES k=some (.tup [.int lo,.int hi])
 wid:(if(k==9||k==10)=true then(64:Int)else 32)=wd
 all:(k=7/\lo=-2147483648/\hi=2147483647/\wd=32)\/(k=8/\lo=0/\hi=4294967295/\wd=32)\/(k=9/\lo=-9223372036854775808/\hi=9223372036854775807/\wd=64)\/(k=10/\lo=0/\hi=18446744073709551615/\wd=64)
theorem num7:Num4 7 (-2147483648) 2147483647 32:=⟨rfl,rfl,.inl ⟨rfl,rfl,rfl,rfl⟩⟩
theorem num8:Num4 8 0 4294967295 32:=⟨rfl,rfl,.inr (.inl ⟨rfl,rfl,rfl,rfl⟩)⟩
theorem num9:Num4 9 (-9223372036854775808) 9223372036854775807 64:=⟨rfl,rfl,.inr (.inr (.inl ⟨rfl,rfl,rfl,rfl⟩))⟩
theorem num10:Num4 10 0 18446744073709551615 64:=⟨rfl,rfl,.inr (.inr (.inr ⟨rfl,rfl,rfl,rfl⟩))⟩
section
variable{k c a b lo hi wd m:Int}(n:Nat)
theorem mask_(h:Num4 k lo hi wd)(x:Int):Builtin.bitAnd x (wd-1)=x%wd:=by
 rcases h.all with⟨_,_,_,rfl⟩|⟨_,_,_,rfl⟩|⟨_,_,_,rfl⟩|⟨_,_,_,rfl⟩
 ·exact bitAnd_m5 x
 ·exact bitAnd_m5 x
 ·exact bitAnd_m6 x
 ·exact bitAnd_m6 x
theorem mod_range(h:Num4 k lo hi wd)(x:Int):0<=x%wd/\x%wd<=64:=by
 rcases h.all with⟨_,_,_,rfl⟩|⟨_,_,_,rfl⟩|⟨_,_,_,rfl⟩|⟨_,_,_,rfl⟩<;>lia
theorem Num4.small(h:Num4 k lo hi wd)(h1:lo<=a)(h2:a<=hi):a.natAbs<2^64:=by
 rcases h.all with⟨_,rfl,rfl,_⟩|⟨_,rfl,rfl,_⟩|⟨_,rfl,rfl,_⟩|⟨_,rfl,rfl,_⟩<;>lia
theorem Num4.pos(h:Num4 k lo hi wd):hi-lo+1≠0:=by
 rcases h.all with⟨_,rfl,rfl,_⟩|⟨_,rfl,rfl,_⟩|⟨_,rfl,rfl,_⟩|⟨_,rfl,rfl,_⟩<;>exact(nofun)
theorem bshl(h:a.natAbs<2^64/\0<=b/\b<=64):binV .LShift (.int a) (.int b)=some (.int (a*2^b.toNat)):=if_pos h
theorem bshr(h:0<=b):binV .RShift (.int a) (.int b)=some (.int (a.fdiv (2^b.toNat))):=if_pos h
theorem shift_l(h:Num4 k lo hi wd)(h1:lo<=a)(h2:a<=hi):run fns (n+3) 10 [.str (Str.ofString "<<"),.int k,.int a,.int b]=M.pure (.int (lo+(a*2^(b%wd).toNat-lo).fmod (hi-lo+1))):=by
 exact oC ffold_shift (.m 2 (V.int (if(k==9||k==10)=true then 64 else 32))<|.v 9 (V.int (a*2^Int.toNat (b%wd)))<|.m 0 (V.int (lo+Int.fmod (a*2^Int.toNat (b%wd)-lo) (hi-lo+1))) .e) (λ_ ez=>ai (fold_width_ (k:=k) (n+1))<|ai (by simp only[h.wid,mask_ h,bshl ⟨h.small h1 h2,mod_range h b⟩]:binV Operator.LShift (V.int a) (V.int (Builtin.bitAnd b ((if(k==9||k==10)=true then 64 else 32)-1)))=some (V.int (a*2^Int.toNat (b%wd))))<|ai (cut_ n h.rng h.pos (a:=a*2^Int.toNat (b%wd)))<|ez)
theorem shift_r(h:Num4 k lo hi wd):run fns (n+3) 10 [.str (Str.ofString ">>"),.int k,.int a,.int b]=M.pure (.int (a.fdiv (2^(b%wd).toNat))):=by
 exact oC ffold_shift (.m 2 (V.int (if(k==9||k==10)=true then 64 else 32))<|.v 8 (V.int (Int.fdiv a (2^Int.toNat (b%wd)))) .e) (λ_ ez=>ai (fold_width_ (k:=k) (n+1))<|ai (by simp only[h.wid,mask_ h,bshr (mod_range h b).1]:binV Operator.RShift (V.int a) (V.int (Builtin.bitAnd b ((if(k==9||k==10)=true then 64 else 32)-1)))=some (V.int (Int.fdiv a (2^Int.toNat (b%wd)))))<|ez)
theorem fb_eq{x y:V}{t:Bool}(h:cmpV .Eq x y=some t):run fns (n+2) 13 [.str (Str.ofString "=="),.int k,x,y,.int c]=M.pure (.tup [.int (b2i t),.int 0]):=by
 exact oC ffold_bin (.m 7 (V.int (b2i t)) .e) (λ_ ez=>ai (cmp_eq _ h:run fns (n+1) 8 [V.str (Str.ofString "=="),x,y]=M.pure (V.int (b2i t)))<|ez)
theorem fb_ne{x y:V}{t:Bool}(h:cmpV .NotEq x y=some t):run fns (n+2) 13 [.str (Str.ofString "!="),.int k,x,y,.int c]=M.pure (.tup [.int (b2i t),.int 0]):=by
 exact oC ffold_bin (.m 7 (V.int (b2i t)) .e) (λ_ ez=>ai (cmp_ne _ h:run fns (n+1) 8 [V.str (Str.ofString "!="),x,y]=M.pure (V.int (b2i t)))<|ez)
theorem fb_lt:run fns (n+2) 13 [.str (Str.ofString "<"),.int k,.int a,.int b,.int c]=M.pure (.tup [.int (b2i (decide (a<b))),.int 0]):=by
 exact oC ffold_bin (.m 7 (V.int (b2i (decide (a<b)))) .e) (λ_ ez=>ai (cmp_lt (a:=a) (n) (b:=b))<|ez)
theorem fb_le:run fns (n+2) 13 [.str (Str.ofString "<="),.int k,.int a,.int b,.int c]=M.pure (.tup [.int (b2i (decide (a<=b))),.int 0]):=by
 exact oC ffold_bin (.m 7 (V.int (b2i (decide (a<=b)))) .e) (λ_ ez=>ai (cmp_le (a:=a) (n) (b:=b))<|ez)
theorem fb_gt:run fns (n+2) 13 [.str (Str.ofString ">"),.int k,.int a,.int b,.int c]=M.pure (.tup [.int (b2i (decide (b<a))),.int 0]):=by
 exact oC ffold_bin (.m 7 (V.int (b2i (decide (b<a)))) .e) (λ_ ez=>ai (cmp_gt (a:=a) (n) (b:=b))<|ez)
theorem fb_ge:run fns (n+2) 13 [.str (Str.ofString ">="),.int k,.int a,.int b,.int c]=M.pure (.tup [.int (b2i (decide (b<=a))),.int 0]):=by
 exact oC ffold_bin (.m 7 (V.int (b2i (decide (b<=a)))) .e) (λ_ ez=>ai (cmp_ge (a:=a) (n) (b:=b))<|ez)
theorem fb_and:run fns (n+2) 13 [.str (Str.ofString "&"),.int k,.int a,.int b,.int c]=M.pure (.tup [.int (Builtin.bitAnd a b),.int 0]):=by
 exact oC ffold_bin (.m 13 (V.int (Builtin.bitAnd a b)) .e) (λ_ ez=>ai (bits_and (a:=a) (n) (b:=b))<|ez)
theorem fb_or:run fns (n+2) 13 [.str (Str.ofString "|"),.int k,.int a,.int b,.int c]=M.pure (.tup [.int (Builtin.bitOr a b),.int 0]):=by
 exact oC ffold_bin (.m 17 (V.int (Builtin.bitOr a b)) .e) (λ_ ez=>ai (bits_or (a:=a) (n) (b:=b))<|ez)
theorem fb_xor:run fns (n+2) 13 [.str (Str.ofString "^"),.int k,.int a,.int b,.int c]=M.pure (.tup [.int (Builtin.bitXor a b),.int 0]):=by
 exact oC ffold_bin (.m 19 (V.int (Builtin.bitXor a b)) .e) (λ_ ez=>ai (bits_xor (a:=a) (n) (b:=b))<|ez)
theorem fb_shl(h:Num4 k lo hi wd)(h1:lo<=a)(h2:a<=hi):run fns (n+4) 13 [.str (Str.ofString "<<"),.int k,.int a,.int b,.int c]=M.pure (.tup [.int (lo+(a*2^(b%wd).toNat-lo).fmod (hi-lo+1)),.int 0]):=by
 exact oC ffold_bin (.m 26 (V.int (lo+Int.fmod (a*2^Int.toNat (b%wd)-lo) (hi-lo+1))) .e) (λ_ ez=>ai (shift_l _ h h1 h2:run fns (n+3) 10 [V.str (Str.ofString "<<"),V.int k,V.int a,V.int b]=M.pure (V.int (lo+Int.fmod (a*2^Int.toNat (b%wd)-lo) (hi-lo+1))))<|ez)
theorem fb_shr(h:Num4 k lo hi wd):run fns (n+4) 13 [.str (Str.ofString ">>"),.int k,.int a,.int b,.int c]=M.pure (.tup [.int (a.fdiv (2^(b%wd).toNat)),.int 0]):=by
 exact oC ffold_bin (.m 28 (V.int (Int.fdiv a (2^Int.toNat (b%wd)))) .e) (λ_ ez=>ai (shift_r _ h:run fns (n+3) 10 [V.str (Str.ofString ">>"),V.int k,V.int a,V.int b]=M.pure (V.int (Int.fdiv a (2^Int.toNat (b%wd)))))<|ez)
theorem fb_div{p:V}(h:run fns (n+2) 11 [.str (Str.ofString "/"),.int k,.int a,.int b,.int c]=M.pure p):run fns (n+3) 13 [.str (Str.ofString "/"),.int k,.int a,.int b,.int c]=M.pure (p):=by
 exact oC ffold_bin (.m 35 (p) .e) (λ_ ez=>ai h<|ez)
theorem fb_rem{p:V}(h:run fns (n+2) 11 [.str (Str.ofString "%"),.int k,.int a,.int b,.int c]=M.pure p):run fns (n+3) 13 [.str (Str.ofString "%"),.int k,.int a,.int b,.int c]=M.pure (p):=by
 exact oC ffold_bin (.m 37 (p) .e) (λ_ ez=>ai h<|ez)
theorem fb_add{p:V}(h:run fns (n+3) 12 [.int k,.int (a+b),.int c]=M.pure p):run fns (n+4) 13 [.str (Str.ofString "+"),.int k,.int a,.int b,.int c]=M.pure (p):=by
 exact oC ffold_bin (.m 41 (p) .e) (λ_ ez=>ai h<|ez)
theorem fb_sub{p:V}(h:run fns (n+3) 12 [.int k,.int (a-b),.int c]=M.pure p):run fns (n+4) 13 [.str (Str.ofString "-"),.int k,.int a,.int b,.int c]=M.pure (p):=by
 exact oC ffold_bin (.m 45 (p) .e) (λ_ ez=>ai h<|ez)
theorem fb_mul{p:V}(hm:a.natAbs<big/\b.natAbs<big)(h:run fns (n+3) 12 [.int k,.int (a*b),.int c]=M.pure p):run fns (n+4) 13 [.str (Str.ofString "*"),.int k,.int a,.int b,.int c]=M.pure (p):=by
 exact oC ffold_bin (.v 43 (V.int (a*b))<|.m 1 (p) .e) (λ_ ez=>ai (bmul hm)<|ai h<|ez)
theorem fu_not:run fns (n+1) 14 [.str (Str.ofString "!"),.int k,.int a,.int c]=M.pure (.tup [.int (1-a),.int 0]):=by
 refine(run_b (n+0) 14 _ (d:=ffold_un) rfl rfl).trans ?_
 exact oB .e (λ_ ez=>ez)
theorem fu_inv(h:dictGet dINT_RANGES k=some (.tup [.int lo,.int hi]))(h2:hi-lo+1≠0):run fns (n+3) 14 [.str (Str.ofString "~"),.int k,.int a,.int c]=M.pure (.tup [.int (lo+(-1-a-lo).fmod (hi-lo+1)),.int 0]):=by
 exact oC ffold_un (.m 12 (V.int (lo+Int.fmod (-1-a-lo) (hi-lo+1))) .e) (λ_ ez=>ai (cut_ _ h h2:run fns (n+2) 5 [V.int k,V.int (-1-a)]=M.pure (V.int (lo+Int.fmod (-1-a-lo) (hi-lo+1))))<|ez)
theorem fu_neg{p:V}(h:run fns (n+3) 12 [.int k,.int (-a),.int c]=M.pure p):run fns (n+4) 14 [.str (Str.ofString "-"),.int k,.int a,.int c]=M.pure (p):=by
 exact oC ffold_un (.m 11 (p) .e) (λ_ ez=>ai h<|ez)
theorem fc_none{f:Int}(h:run fns (n+3) 12 [.int k,.int a,.int c]=M.pure (.tup [.none,.int f])):run fns (n+4) 15 [.int k,.int a,.int c]=M.pure (.tup [.none,.int 221]):=by
 exact oC ffold_conv (.m 3 (V.tup [V.none,V.int f]) .e) (λ_ ez=>ai h<|ez)
theorem fc_some{v f:Int}(h:run fns (n+3) 12 [.int k,.int a,.int c]=M.pure (.tup [.int v,.int f])):run fns (n+4) 15 [.int k,.int a,.int c]=M.pure (.tup [.int v,.int f]):=by
 exact oC ffold_conv (.m 3 (V.tup [V.int v,V.int f]) .e) (λ_ ez=>ai h<|ez)
theorem made_n{x:V}{f:Int}:run fns (n+1) 18 [x,.tup [.none,.int f]]=M.pure (x):=by
 refine(run_b (n+0) 18 _ (d:=fmade) rfl rfl).trans ?_
 exact oB .e (λ_ ez=>ez)
theorem made_s{r:List V}{v f:Int}{cd:V}:run fns (n+1) 18 [.tup (cd::.int k::r),.tup [.int v,.int f]]=M.pure (.tup [.int 1,.int k,.int v]):=by
 refine(run_b (n+0) 18 _ (d:=fmade) rfl rfl).trans ?_
 exact oB .e (λ_ ez=>ez)
end
structure Unk(u:V):Prop where
 kn:∀n,run fns (n+1) 16 [u]=M.pure (.bool false)
 st:∀n,run fns (n+1) 45 [u]=M.pure (.bool false)
 nu:∀n,run fns (n+2) 28 [u]=M.pure (.bool false)
 hd:∃c r,u=.tup (.int c::r)/\((c==1)=false\/u=.tup [.int 1,.int 15,.none])
section
variable{k j c l a b lo hi wd:Int}{v x y z:V}{s:Str}{r:List V}(n:Nat)
theorem still_K(h:(k==15)=false):run fns (n+1) 45 [.tup [.int 1,.int k,v]]=M.pure (.bool true):=by
 exact oC f_law_still (.b 7 true .e) (λ_ ez=>ai (nt h)<|ez)
theorem still_B:run fns (n+1) 45 [.tup [.int 1,.int 15,v]]=M.pure (.bool false):=by
 refine(run_b n 45 _ (d:=f_law_still) rfl rfl).trans ?_
 exact oB .e (λ_ ez=>ez)
theorem still_O(h:(c==1)=false):run fns (n+1) 45 [.tup (.int c::r)]=M.pure (.bool false):=by
 exact oC f_law_still (.b 2 false .e) (λ_ ez=>ai (sm h)<|ez)
theorem icn_O(h:(c==1)=false)(h2:(c==19)=false):run fns (n+2) 28 [.tup (.int c::r)]=M.pure (.bool false):=by
 exact oC fis_constant_null (.b 2 false<|.m 5 (V.bool false) .e) (λ_ ez=>ai (sm h2)<|ai (known_O _ h:run fns (n+1) 16 [V.tup (V.int c::r)]=M.pure (V.bool false))<|ez)
theorem icn_C(h:(b==8)=false):run fns (n+2) 28 [.tup [.int 19,x,y,.int b,z]]=M.pure (.bool false):=by
 exact oC fis_constant_null (.b 7 false<|.m 3 (V.bool false) .e) (λ_ ez=>ai (sm h)<|ai (known_O _ (show((19:Int)==1)=false from rfl):run fns (n+1) 16 [V.tup [V.int 19,x,y,V.int b,z]]=M.pure (V.bool false))<|ez)
theorem icn_B:run fns (n+2) 28 [.tup [.int 1,.int 15,.none]]=M.pure (.bool false):=by
 exact oC fis_constant_null (.m 8 (V.bool false) .e) (λ_ ez=>ai (known_B (v:=V.none) (n))<|ez)
theorem icn_Kn(h:(k==15)=false):run fns (n+2) 28 [.tup [.int 1,.int k,.none]]=M.pure (.bool true):=by
 exact oC fis_constant_null (.m 8 (V.bool true) .e) (λ_ ez=>ai (known_K _ h:run fns (n+1) 16 [V.tup [V.int 1,V.int k,V.none]]=M.pure (V.bool true))<|ez)
theorem icn_Ks(h:(k==15)=false):run fns (n+2) 28 [.tup [.int 1,.int k,.str s]]=M.pure (.bool false):=by
 exact oC fis_constant_null (.m 8 (V.bool true) .e) (λ_ ez=>ai (known_K _ h:run fns (n+1) 16 [V.tup [V.int 1,V.int k,V.str s]]=M.pure (V.bool true))<|ez)
theorem icn_N:run fns (n+2) 28 [.tup [.int 19,x,.tup [.int 1,.int 14,.none],.int 8,z]]=M.pure (.bool true):=by
 exact oC fis_constant_null (.m 13 (V.bool true) .e) (λ_ ez=>ai (known_K _ (show((14:Int)==15)=false from rfl):run fns (n+1) 16 [V.tup [V.int 1,V.int 14,V.none]]=M.pure (V.bool true))<|ez)
theorem unk_bad:Unk (.tup [.int 1,.int 15,.none]):=⟨λn=>known_B n,λn=>still_B n,λn=>icn_B n,_,_,rfl,.inr rfl⟩
theorem unk_op(h:(c==1)=false)(h2:(c==19)=false):Unk (.tup (.int c::r)):=⟨λn=>known_O n h,λn=>still_O n h,λn=>icn_O n h h2,_,_,rfl,.inl h⟩
theorem unk_conv(h:(b==8)=false):Unk (.tup [.int 19,x,y,.int b,z]):=⟨λn=>known_O n rfl,λn=>still_O n rfl,λn=>icn_C n h,_,_,rfl,.inl rfl⟩
theorem numeric_i(h:(k==15)=false)(h2:(k==13)=false):run fns (n+2) 17 [.tup [.int 1,.int k,.int a]]=M.pure (.bool true):=by
 exact oC fnumeric (.m 1 (V.bool true)<|.b 9 true .e) (λ_ ez=>ai (known_K _ h:run fns (n+1) 16 [V.tup [V.int 1,V.int k,V.int a]]=M.pure (V.bool true))<|ai (nt h2)<|ez)
theorem numeric_U(u:Unk x):run fns (n+2) 17 [x]=M.pure (.bool false):=by
 exact oC fnumeric (.m 1 (V.bool false) .e) (λ_ ez=>ai (u.kn (n))<|ez)
theorem asc_loose:run fns (n+1) 19 [.tup (x::r),.int 1]=M.pure (.tup (x::r)):=by
 refine(run_b n 19 _ (d:=fas_constant) rfl rfl).trans ?_
 exact oB .e (λ_ ez=>ez)
theorem asc_un_K(h:(j==15)=false):run fns (n+2) 19 [.tup [.int 13,.int k,.str s,.tup [.int 1,.int j,v],.int c],.int 0]=M.pure (.tup [.int 13,.int k,.str s,.tup [.int 1,.int j,v],.int 1]):=by
 exact oC fas_constant (.m 12 (V.bool true) .e) (λ_ ez=>ai (known_K _ h:run fns (n+1) 16 [V.tup [V.int 1,V.int j,v]]=M.pure (V.bool true))<|ez)
theorem asc_un_U(u:Unk x):run fns (n+2) 19 [.tup [.int 13,.int k,.str s,x,.int c],.int 0]=M.pure (.tup [.int 13,.int k,.str s,x,.int c]):=by
 exact oC fas_constant (.m 12 (V.bool false) .e) (λ_ ez=>ai (u.kn (n))<|ez)
theorem asc_bin_K(h:(j==15)=false)(h2:(l==15)=false):run fns (n+2) 19 [.tup [.int 14,.int k,.str s,.tup [.int 1,.int j,v],.tup [.int 1,.int l,z],.int c],.int 0]=M.pure (.tup [.int 14,.int k,.str s,.tup [.int 1,.int j,v],.tup [.int 1,.int l,z],.int 1]):=by
 exact oC fas_constant (.m 18 (V.bool true)<|.m 4 (V.bool true) .e) (λ_ ez=>ai (known_K _ h:run fns (n+1) 16 [V.tup [V.int 1,V.int j,v]]=M.pure (V.bool true))<|ai (known_K _ h2:run fns (n+1) 16 [V.tup [V.int 1,V.int l,z]]=M.pure (V.bool true))<|ez)
theorem asc_bin_U1(u:Unk x):run fns (n+2) 19 [.tup [.int 14,.int k,.str s,x,y,.int c],.int 0]=M.pure (.tup [.int 14,.int k,.str s,x,y,.int c]):=by
 exact oC fas_constant (.m 18 (V.bool false) .e) (λ_ ez=>ai (u.kn (n))<|ez)
theorem asc_bin_U2(h:(j==15)=false)(u:Unk y):run fns (n+2) 19 [.tup [.int 14,.int k,.str s,.tup [.int 1,.int j,v],y,.int c],.int 0]=M.pure (.tup [.int 14,.int k,.str s,.tup [.int 1,.int j,v],y,.int c]):=by
 exact oC fas_constant (.m 18 (V.bool true)<|.m 4 (V.bool false) .e) (λ_ ez=>ai (known_K _ h:run fns (n+1) 16 [V.tup [V.int 1,V.int j,v]]=M.pure (V.bool true))<|ai (u.kn (n))<|ez)
theorem asc_num_K(h:(j==15)=false):run fns (n+2) 19 [.tup [.int 19,.int k,.tup [.int 1,.int j,v],.int 1,.int c],.int 0]=M.pure (.tup [.int 19,.int k,.tup [.int 1,.int j,v],.int 1,.int 1]):=by
 exact oC fas_constant (.m 29 (V.bool true) .e) (λ_ ez=>ai (known_K _ h:run fns (n+1) 16 [V.tup [V.int 1,V.int j,v]]=M.pure (V.bool true))<|ez)
theorem asc_num_U(u:Unk x):run fns (n+2) 19 [.tup [.int 19,.int k,x,.int 1,.int c],.int 0]=M.pure (.tup [.int 19,.int k,x,.int 1,.int c]):=by
 exact oC fas_constant (.m 29 (V.bool false) .e) (λ_ ez=>ai (u.kn (n))<|ez)
theorem asc_conv(h:(b==1)=false):run fns (n+2) 19 [.tup [.int 19,.int k,x,.int b,y],.int 0]=M.pure (.tup [.int 19,.int k,x,.int b,y]):=by
 exact oC fas_constant (.b 24 false .e) (λ_ ez=>ai (sm h)<|ez)
theorem asc_other(h1:(c==13)=false)(h2:(c==14)=false)(h3:(c==19)=false):run fns (n+1) 19 [.tup (.int c::r),.int 0]=M.pure (.tup (.int c::r)):=by
 exact oC fas_constant (.b 7 false<|.b 5 false<|.b 5 false .e) (λ_ ez=>ai (sm h1)<|ai (sm h2)<|ai (sm h3)<|ez)
end
section
variable{n:Nat}{r:List V}{z:V}
theorem v13(h:run fns (n+1) 24 [.tup (.int 13::r)]=M.pure z):run fns (n+2) 34 [.tup (.int 13::r)]=M.pure z:=oC ffold (.m 7 z .e) (λ_ ez=>ai h ez)
theorem v14(h:run fns (n+1) 25 [.tup (.int 14::r)]=M.pure z):run fns (n+2) 34 [.tup (.int 14::r)]=M.pure z:=oC ffold (.m 11 z .e) (λ_ ez=>ai h ez)
theorem v15(h:run fns (n+1) 26 [.tup (.int 15::r)]=M.pure z):run fns (n+2) 34 [.tup (.int 15::r)]=M.pure z:=oC ffold (.m 17 z .e) (λ_ ez=>ai h ez)
theorem v16(h:run fns (n+1) 26 [.tup (.int 16::r)]=M.pure z):run fns (n+2) 34 [.tup (.int 16::r)]=M.pure z:=oC ffold (.m 19 z .e) (λ_ ez=>ai h ez)
theorem v17(h:run fns (n+1) 27 [.tup (.int 17::r)]=M.pure z):run fns (n+2) 34 [.tup (.int 17::r)]=M.pure z:=oC ffold (.m 23 z .e) (λ_ ez=>ai h ez)
theorem v19(h:run fns (n+1) 30 [.tup (.int 19::r)]=M.pure z):run fns (n+2) 34 [.tup (.int 19::r)]=M.pure z:=oC ffold (.m 27 z .e) (λ_ ez=>ai h ez)
theorem v26(h:run fns (n+1) 33 [.tup (.int 26::r)]=M.pure z):run fns (n+2) 34 [.tup (.int 26::r)]=M.pure z:=oC ffold (.m 31 z .e) (λ_ ez=>ai h ez)
theorem v12(h:run fns (n+1) 31 [.tup (.int 12::r)]=M.pure z):run fns (n+2) 34 [.tup (.int 12::r)]=M.pure z:=oC ffold (.m 35 z .e) (λ_ ez=>ai h ez)
end
section
variable{k j c l a b f lo hi wd:Int}{v x y z p:V}{s:Str}{r:List V}(n:Nat)
theorem is_number_F(h:10<k):run fns (n+1) 1 [.int k]=M.pure (.bool false):=by
 refine(run_b n 1 _ (d:=fis_number) rfl rfl).trans ?_
 have h1:2<=k:=by lia
 have h2:¬k<=10:=by lia
 exact oB (.b 1 true<|.b 3 false .e) (λ_ ez=>ai (sd h1)<|ai (sn h2)<|ez)
theorem foldu_not(h:(j==15)=false)(h2:(j==13)=false):run fns (n+4) 34 [.tup [.int 13,.int k,.str (Str.ofString "!"),.tup [.int 1,.int j,.int a],.int c]]=M.pure (.tup [.int 1,.int k,.int (1-a)]):=by
 exact v13 (oC ffold_unary (.m 2 (V.bool true)<|.m 21 (V.tup [V.int (1-a),V.int 0])<|.m 0 (V.tup [V.int 1,V.int k,V.int (1-a)]) .e) (λ_ ez=>ai (numeric_i _ h h2:run fns (n+2) 17 [V.tup [V.int 1,V.int j,V.int a]]=M.pure (V.bool true))<|ai (fu_not (k:=k) (c:=c) (a:=a) (n+1))<|ai (made_s (k:=k) (n+1) (r:=[V.str (Str.ofString "!"),V.tup [V.int 1,V.int j,V.int a],V.int c]) (v:=1-a) (f:=0) (cd:=V.int 13))<|ez))
theorem faultu_not(h:(j==15)=false)(h2:(j==13)=false):run fns (n+4) 23 [.tup [.int 13,.int k,.str (Str.ofString "!"),.tup [.int 1,.int j,.int a],.int c]]=M.pure (.int 0):=by
 exact oC ffold_fault (.m 8 (V.bool true)<|.m 18 (V.tup [V.int (1-a),V.int 0]) .e) (λ_ ez=>ai (numeric_i _ h h2:run fns (n+3) 17 [V.tup [V.int 1,V.int j,V.int a]]=M.pure (V.bool true))<|ai (fu_not (k:=k) (c:=c) (a:=a) (n+2))<|ez)
theorem foldu_s(h:(j==15)=false)(h2:(j==13)=false)(hs:(s==Str.ofString "!")=false)(k1:2<=k)(k2:k<=10)(hp:∀m,run fns (m+4) 14 [.str s,.int k,.int a,.int c]=M.pure (.tup [.int b,.int f])):
  run fns (n+6) 34 [.tup [.int 13,.int k,.str s,.tup [.int 1,.int j,.int a],.int c]]=M.pure (.tup [.int 1,.int k,.int b]):=by
 exact v13 (oC ffold_unary (.m 2 (V.bool true)<|.b 5 false<|.m 4 (V.bool true)<|.m 13 (V.tup [V.int b,V.int f])<|.m 0 (V.tup [V.int 1,V.int k,V.int b]) .e) (λ_ ez=>ai (numeric_i _ h h2:run fns (n+4) 17 [V.tup [V.int 1,V.int j,V.int a]]=M.pure (V.bool true))<|ai (sm hs)<|ai (is_number_T _ k1 k2:run fns (n+4) 1 [V.int k]=M.pure (V.bool true))<|ai (hp (n))<|ai (made_s (k:=k) (n+3) (r:=[V.str s,V.tup [V.int 1,V.int j,V.int a],V.int c]) (v:=b) (f:=f) (cd:=V.int 13))<|ez))
theorem foldu_n(h:(j==15)=false)(h2:(j==13)=false)(hs:(s==Str.ofString "!")=false)(k1:2<=k)(k2:k<=10)(hp:∀m,run fns (m+4) 14 [.str s,.int k,.int a,.int c]=M.pure (.tup [.none,.int f])):
  run fns (n+6) 34 [.tup [.int 13,.int k,.str s,.tup [.int 1,.int j,.int a],.int c]]=M.pure (.tup [.int 13,.int k,.str s,.tup [.int 1,.int j,.int a],.int c]):=by
 exact v13 (oC ffold_unary (.m 2 (V.bool true)<|.b 5 false<|.m 4 (V.bool true)<|.m 13 (V.tup [V.none,V.int f])<|.m 0 (V.tup [V.int 13,V.int k,V.str s,V.tup [V.int 1,V.int j,V.int a],V.int c]) .e) (λ_ ez=>ai (numeric_i _ h h2:run fns (n+4) 17 [V.tup [V.int 1,V.int j,V.int a]]=M.pure (V.bool true))<|ai (sm hs)<|ai (is_number_T _ k1 k2:run fns (n+4) 1 [V.int k]=M.pure (V.bool true))<|ai (hp (n))<|ai (by simp only[made_n]:run fns (n+4) 18 [V.tup [V.int 13,V.int k,V.str s,V.tup [V.int 1,V.int j,V.int a],V.int c],V.tup [V.none,V.int f]]=M.pure (V.tup [V.int 13,V.int k,V.str s,V.tup [V.int 1,V.int j,V.int a],V.int c]))<|ez))
theorem faultu_s(h:(j==15)=false)(h2:(j==13)=false)(hs:(s==Str.ofString "!")=false)(k1:2<=k)(k2:k<=10)(hp:∀m,run fns (m+4) 14 [.str s,.int k,.int a,.int c]=M.pure (.tup [x,.int f])):
  run fns (n+6) 23 [.tup [.int 13,.int k,.str s,.tup [.int 1,.int j,.int a],.int c]]=M.pure (.int f):=by
 exact oC ffold_fault (.m 8 (V.bool true)<|.b 4 false<|.m 4 (V.bool true)<|.m 11 (V.tup [x,V.int f]) .e) (λ_ ez=>ai (numeric_i _ h h2:run fns (n+5) 17 [V.tup [V.int 1,V.int j,V.int a]]=M.pure (V.bool true))<|ai (sm hs)<|ai (is_number_T _ k1 k2:run fns (n+5) 1 [V.int k]=M.pure (V.bool true))<|ai (hp (n+1))<|ez)
theorem foldu_U(u:Unk x):run fns (n+4) 34 [.tup [.int 13,.int k,.str s,x,.int c]]=M.pure (.tup [.int 13,.int k,.str s,x,.int c]):=by
 exact v13 (oC ffold_unary (.m 2 (V.bool false) .e) (λ_ ez=>ai (numeric_U _ u:run fns (n+2) 17 [x]=M.pure (V.bool false))<|ez))
theorem faultu_U(u:Unk x):run fns (n+4) 23 [.tup [.int 13,.int k,.str s,x,.int c]]=M.pure (.int 0):=by
 exact oC ffold_fault (.m 8 (V.bool false) .e) (λ_ ez=>ai (numeric_U _ u:run fns (n+3) 17 [x]=M.pure (V.bool false))<|ez)
theorem bk_U1(u:Unk x):run fns (n+3) 20 [.tup [.int 14,.int k,.str s,x,y,.int c]]=M.pure (.bool false):=by
 exact oC fbin_known (.m 5 (V.bool false) .e) (λ_ ez=>ai (u.kn (n+1))<|ez)
theorem bk_U2(h:(j==15)=false)(u:Unk y):run fns (n+3) 20 [.tup [.int 14,.int k,.str s,.tup [.int 1,.int j,v],y,.int c]]=M.pure (.bool false):=by
 exact oC fbin_known (.m 5 (V.bool true)<|.m 3 (V.bool false) .e) (λ_ ez=>ai (known_K _ h:run fns (n+2) 16 [V.tup [V.int 1,V.int j,v]]=M.pure (V.bool true))<|ai (u.kn (n+1))<|ez)
theorem bk_e(h:(j==15)=false)(h2:(l==15)=false):run fns (n+3) 20 [.tup [.int 14,.int k,.str (Str.ofString "=="),.tup [.int 1,.int j,v],.tup [.int 1,.int l,z],.int c]]=M.pure (.bool true):=by
 exact oC fbin_known (.m 5 (V.bool true)<|.m 3 (V.bool true) .e) (λ_ ez=>ai (known_K _ h:run fns (n+2) 16 [V.tup [V.int 1,V.int j,v]]=M.pure (V.bool true))<|ai (known_K _ h2:run fns (n+2) 16 [V.tup [V.int 1,V.int l,z]]=M.pure (V.bool true))<|ez)
theorem bk_n(h:(j==15)=false)(h2:(l==15)=false):run fns (n+3) 20 [.tup [.int 14,.int k,.str (Str.ofString "!="),.tup [.int 1,.int j,v],.tup [.int 1,.int l,z],.int c]]=M.pure (.bool true):=by
 exact oC fbin_known (.m 5 (V.bool true)<|.m 3 (V.bool true) .e) (λ_ ez=>ai (known_K _ h:run fns (n+2) 16 [V.tup [V.int 1,V.int j,v]]=M.pure (V.bool true))<|ai (known_K _ h2:run fns (n+2) 16 [V.tup [V.int 1,V.int l,z]]=M.pure (V.bool true))<|ez)
theorem bk_k(h:(j==15)=false)(h':(j==13)=false)(h2:(l==15)=false)(h2':(l==13)=false)(he:(s==Str.ofString "==")=false)(hn:(s==Str.ofString "!=")=false)(hj:(j==1)=false)(j1:2<=j)(j2:j<=10):
  run fns (n+3) 20 [.tup [.int 14,.int k,.str s,.tup [.int 1,.int j,.int a],.tup [.int 1,.int l,.int b],.int c]]=M.pure (.bool true):=by
 exact oC fbin_known (.m 5 (V.bool true)<|.m 3 (V.bool true)<|.b 5 false<|.b 4 false<|.m 3 (V.bool true)<|.m 3 (V.bool true)<|.b 4 false<|.m 4 (V.bool true) .e) (λ_ ez=>ai (known_K _ h:run fns (n+2) 16 [V.tup [V.int 1,V.int j,V.int a]]=M.pure (V.bool true))<|ai (known_K _ h2:run fns (n+2) 16 [V.tup [V.int 1,V.int l,V.int b]]=M.pure (V.bool true))<|ai (sm he)<|ai (sm hn)<|ai (numeric_i _ h h':run fns (n+2) 17 [V.tup [V.int 1,V.int j,V.int a]]=M.pure (V.bool true))<|ai (numeric_i _ h2 h2':run fns (n+2) 17 [V.tup [V.int 1,V.int l,V.int b]]=M.pure (V.bool true))<|ai (sm hj)<|ai (is_number_T _ j1 j2:run fns (n+2) 1 [V.int j]=M.pure (V.bool true))<|ez)
theorem bk_b(h2:(l==15)=false)(h2':(l==13)=false)(he:(s==Str.ofString "==")=false)(hn:(s==Str.ofString "!=")=false):
  run fns (n+3) 20 [.tup [.int 14,.int k,.str s,.tup [.int 1,.int 1,.int a],.tup [.int 1,.int l,.int b],.int c]]=M.pure (.bool true):=by
 exact oC fbin_known (.m 5 (V.bool true)<|.m 3 (V.bool true)<|.b 5 false<|.b 4 false<|.m 3 (V.bool true)<|.m 3 (V.bool true) .e) (λ_ ez=>ai (known_K _ (show((1:Int)==15)=false from rfl):run fns (n+2) 16 [V.tup [V.int 1,V.int 1,V.int a]]=M.pure (V.bool true))<|ai (known_K _ h2:run fns (n+2) 16 [V.tup [V.int 1,V.int l,V.int b]]=M.pure (V.bool true))<|ai (sm he)<|ai (sm hn)<|ai (numeric_i _ (show((1:Int)==15)=false from rfl) (show((1:Int)==13)=false from rfl):run fns (n+2) 17 [V.tup [V.int 1,V.int 1,V.int a]]=M.pure (V.bool true))<|ai (numeric_i _ h2 h2':run fns (n+2) 17 [V.tup [V.int 1,V.int l,V.int b]]=M.pure (V.bool true))<|ez)
theorem br_(hp:∀m,run fns (m+4) 13 [.str s,.int j,v,z,.int c]=M.pure p):run fns (n+5) 22 [.tup [.int 14,.int k,.str s,.tup [.int 1,.int j,v],.tup [.int 1,.int l,z],.int c]]=M.pure p:=by
 exact oC fbin_result (.m 13 (p) .e) (λ_ ez=>ai (hp (n))<|ez)
theorem zr_no(h1:(s==Str.ofString "/")=false)(h2:(s==Str.ofString "%")=false):run fns (n+2) 21 [.tup [.int 14,.int k,.str s,x,y,.int c]]=M.pure (.bool false):=by
 exact oC fzero_right (.b 4 false<|.b 4 false .e) (λ_ ez=>ai (sm h1)<|ai (sm h2)<|ez)
theorem zr_K(hs:((s==Str.ofString "/")||(s==Str.ofString "%"))=true)(l1:2<=l)(l2:l<=10):run fns (n+2) 21 [.tup [.int 14,.int k,.str s,x,.tup [.int 1,.int l,.int b],.int c]]=M.pure (.bool (b==0)):=
 oC fzero_right (.y 1 (.bool true)<|.m 9 (.bool true) .e) (λ_ ez=>ai (bo2o (Φ:=run fns (n+1)) (ρ:=[.val (.tup [.int 14,.int k,.str s,x,.tup [.int 1,.int l,.int b],.int c]),.val (.tup [.int 1,.int l,.int b])]) (e1:=.cmp .Eq (.sub (.loc 0) (.int 2)) (.str (Str.ofString "/"))) (e2:=.cmp .Eq (.sub (.loc 0) (.int 2)) (.str (Str.ofString "%"))) rfl rfl hs)<|ai (is_number_T n l1 l2) ez)
theorem zr_U(u:Unk y):run fns (n+2) 21 [.tup [.int 14,.int k,.str s,x,y,.int c]]=M.pure (.bool false):=by
 refine(run_b (n+1) 21 _ (d:=fzero_right) rfl rfl).trans ?_
 obtain⟨d,q,rfl,hd⟩:=u.hd
 rcases hd with hd|hd
 ·cases h1:(s==Str.ofString "/")<;>cases h2:(s==Str.ofString "%")
  ·exact oB (.b 4 false<|.b 4 false .e) (λ_ ez=>ai (sm h1)<|ai (sm h2)<|ez)
  ·exact oB (.b 4 false<|.b 4 true<|.b 4 false .e) (λ_ ez=>ai (sm h1)<|ai (sm h2)<|ai (sm hd)<|ez)
  ·exact oB (.b 4 true<|.b 6 false .e) (λ_ ez=>ai (sm h1)<|ai (sm hd)<|ez)
  ·exact oB (.b 4 true<|.b 6 false .e) (λ_ ez=>ai (sm h1)<|ai (sm hd)<|ez)
 ·rw[hd]
  cases h1:(s==Str.ofString "/")<;>cases h2:(s==Str.ofString "%")
  ·exact oB (.b 4 false<|.b 4 false .e) (λ_ ez=>ai (sm h1)<|ai (sm h2)<|ez)
  ·exact oB (.b 4 false<|.b 4 true<|.m 9 (V.bool false) .e) (λ_ ez=>ai (sm h1)<|ai (sm h2)<|ai (is_number_F _ (show(10:Int)<15 by constructor):run fns (n+1) 1 [V.int 15]=M.pure (V.bool false))<|ez)
  ·exact oB (.b 4 true<|.m 11 (V.bool false) .e) (λ_ ez=>ai (sm h1)<|ai (is_number_F _ (show(10:Int)<15 by constructor):run fns (n+1) 1 [V.int 15]=M.pure (V.bool false))<|ez)
  ·exact oB (.b 4 true<|.m 11 (V.bool false) .e) (λ_ ez=>ai (sm h1)<|ai (is_number_F _ (show(10:Int)<15 by constructor):run fns (n+1) 1 [V.int 15]=M.pure (V.bool false))<|ez)
theorem faultb_z(hz:∀m,run fns (m+2) 21 [.tup (.int 14::r)]=M.pure (.bool true)):run fns (n+3) 23 [.tup (.int 14::r)]=M.pure (.int 20):=by
 exact oC ffold_fault (.m 13 (V.bool true) .e) (λ_ ez=>ai (hz (n))<|ez)
theorem faultb_k(hz:∀m,run fns (m+2) 21 [.tup (.int 14::r)]=M.pure (.bool false))(hk:∀m,run fns (m+3) 20 [.tup (.int 14::r)]=M.pure (.bool true))(hr:∀m,run fns (m+5) 22 [.tup (.int 14::r)]=M.pure (.tup [x,.int f])):
  run fns (n+6) 23 [.tup (.int 14::r)]=M.pure (.int f):=by
 exact oC ffold_fault (.m 13 (V.bool false)<|.m 7 (V.bool true)<|.m 3 (V.tup [x,V.int f]) .e) (λ_ ez=>ai (hz (n+3))<|ai (hk (n+2))<|ai (hr (n))<|ez)
theorem faultb_u(hz:∀m,run fns (m+2) 21 [.tup (.int 14::r)]=M.pure (.bool false))(hk:∀m,run fns (m+3) 20 [.tup (.int 14::r)]=M.pure (.bool false)):run fns (n+4) 23 [.tup (.int 14::r)]=M.pure (.int 0):=by
 exact oC ffold_fault (.m 13 (V.bool false)<|.m 7 (V.bool false) .e) (λ_ ez=>ai (hz (n+1))<|ai (hk (n))<|ez)
theorem foldb_u(hk:∀m,run fns (m+3) 20 [.tup (.int 14::r)]=M.pure (.bool false)):run fns (n+5) 34 [.tup (.int 14::r)]=M.pure (.tup (.int 14::r)):=by
 exact v14 (oC ffold_binary (.m 1 (V.bool false) .e) (λ_ ez=>ai (hk (n))<|ez))
theorem foldb_s(hk:∀m,run fns (m+3) 20 [.tup (.int 14::.int k::r)]=M.pure (.bool true))(hr:∀m,run fns (m+5) 22 [.tup (.int 14::.int k::r)]=M.pure (.tup [.int b,.int f])):run fns (n+7) 34 [.tup (.int 14::.int k::r)]=M.pure (.tup [.int 1,.int k,.int b]):=by
 exact v14 (oC ffold_binary (.m 1 (V.bool true)<|.m 5 (V.tup [V.int b,V.int f])<|.m 0 (V.tup [V.int 1,V.int k,V.int b]) .e) (λ_ ez=>ai (hk (n+2))<|ai (hr (n))<|ai (made_s (k:=k) (n+4) (r:=r) (v:=b) (f:=f) (cd:=V.int 14))<|ez))
theorem foldb_n(hk:∀m,run fns (m+3) 20 [.tup (.int 14::r)]=M.pure (.bool true))(hr:∀m,run fns (m+5) 22 [.tup (.int 14::r)]=M.pure (.tup [.none,.int f])):run fns (n+7) 34 [.tup (.int 14::r)]=M.pure (.tup (.int 14::r)):=by
 exact v14 (oC ffold_binary (.m 1 (V.bool true)<|.m 5 (V.tup [V.none,V.int f])<|.m 0 (V.tup (V.int 14::r)) .e) (λ_ ez=>ai (hk (n+2))<|ai (hr (n))<|ai (by simp only[made_n]:run fns (n+5) 18 [V.tup (V.int 14::r),V.tup [V.none,V.int f]]=M.pure (V.tup (V.int 14::r)))<|ez))
end
section
variable{k j c l q a b d f lo hi wd:Int}{u v w x y z p:V}{s t:Str}{r:List V}(n:Nat)
theorem fold_and(h:(j==15)=false)(h2:(l==15)=false):run fns (n+3) 34 [.tup [.int 15,.int k,.tup [.int 1,.int j,.int a],.tup [.int 1,.int l,.int b]]]=M.pure (.tup [.int 1,.int k,.int (Builtin.bitAnd a b)]):=by
 exact v15 (oC ffold_logic (.m 2 (V.bool true)<|.m 4 (V.bool true) .e) (λ_ ez=>ai (known_K _ h:run fns (n+1) 16 [V.tup [V.int 1,V.int j,V.int a]]=M.pure (V.bool true))<|ai (known_K _ h2:run fns (n+1) 16 [V.tup [V.int 1,V.int l,V.int b]]=M.pure (V.bool true))<|ez))
theorem fold_or(h:(j==15)=false)(h2:(l==15)=false):run fns (n+3) 34 [.tup [.int 16,.int k,.tup [.int 1,.int j,.int a],.tup [.int 1,.int l,.int b]]]=M.pure (.tup [.int 1,.int k,.int (Builtin.bitOr a b)]):=by
 exact v16 (oC ffold_logic (.m 2 (V.bool true)<|.m 4 (V.bool true) .e) (λ_ ez=>ai (known_K _ h:run fns (n+1) 16 [V.tup [V.int 1,V.int j,V.int a]]=M.pure (V.bool true))<|ai (known_K _ h2:run fns (n+1) 16 [V.tup [V.int 1,V.int l,V.int b]]=M.pure (V.bool true))<|ez))
theorem fold_cond(h:(j==15)=false)(h2:(l==15)=false)(h3:(q==15)=false):run fns (n+3) 34 [.tup [.int 17,.int k,.tup [.int 1,.int j,.int a],.tup [.int 1,.int l,v],.tup [.int 1,.int q,w]]]=M.pure (.tup [.int 1,.int k,if(a==1)=true then v else w]):=by
 refine(run_b (n+2) 34 _ (d:=ffold) rfl rfl).trans ?_
 cases e:(a==1)
 ·exact(show _=M.pure (V.tup [V.int 1,V.int k,w])from oB (.m 23 (V.tup [V.int 1,V.int k,w]) .e) (λ_ ez=>ai (oC ffold_choice (.m 2 (V.bool true)<|.m 4 (V.bool true)<|.m 4 (V.bool true)<|.b 6 false .e) (λ_ ez=>ai (known_K _ h:run fns (n+1) 16 [V.tup [V.int 1,V.int j,V.int a]]=M.pure (V.bool true))<|ai (known_K _ h2:run fns (n+1) 16 [V.tup [V.int 1,V.int l,v]]=M.pure (V.bool true))<|ai (known_K _ h3:run fns (n+1) 16 [V.tup [V.int 1,V.int q,w]]=M.pure (V.bool true))<|ai (sm e)<|ez):run fns (n+2) 27 [V.tup [V.int 17,V.int k,V.tup [V.int 1,V.int j,V.int a],V.tup [V.int 1,V.int l,v],V.tup [V.int 1,V.int q,w]]]=M.pure (V.tup [V.int 1,V.int k,w]))<|ez)).trans (congrArg M.pure rfl)
 ·exact(show _=M.pure (V.tup [V.int 1,V.int k,v])from oB (.m 23 (V.tup [V.int 1,V.int k,v]) .e) (λ_ ez=>ai (oC ffold_choice (.m 2 (V.bool true)<|.m 4 (V.bool true)<|.m 4 (V.bool true)<|.b 6 true .e) (λ_ ez=>ai (known_K _ h:run fns (n+1) 16 [V.tup [V.int 1,V.int j,V.int a]]=M.pure (V.bool true))<|ai (known_K _ h2:run fns (n+1) 16 [V.tup [V.int 1,V.int l,v]]=M.pure (V.bool true))<|ai (known_K _ h3:run fns (n+1) 16 [V.tup [V.int 1,V.int q,w]]=M.pure (V.bool true))<|ai (sm e)<|ez):run fns (n+2) 27 [V.tup [V.int 17,V.int k,V.tup [V.int 1,V.int j,V.int a],V.tup [V.int 1,V.int l,v],V.tup [V.int 1,V.int q,w]]]=M.pure (V.tup [V.int 1,V.int k,v]))<|ez)).trans (congrArg M.pure rfl)
theorem fold_o(h1:(c==13)=false)(h2:(c==14)=false)(h3:(c==15)=false)(h4:(c==16)=false)(h5:(c==17)=false)(h6:(c==19)=false)(h7:(c==26)=false)(h8:(c==12)=false):run fns (n+1) 34 [.tup (.int c::r)]=M.pure (.tup (.int c::r)):=by
 exact oC ffold (.b 3 false<|.b 3 false<|.b 3 false<|.b 3 false<|.b 3 false<|.b 3 false<|.b 3 false<|.b 3 false .e) (λ_ ez=>ai (sm h1)<|ai (sm h2)<|ai (sm h3)<|ai (sm h4)<|ai (sm h5)<|ai (sm h6)<|ai (sm h7)<|ai (sm h8)<|ez)
theorem fault_o(h1:(c==13)=false)(h2:(c==14)=false)(h3:(c==19)=false):run fns (n+1) 23 [.tup (.int c::r)]=M.pure (.int 0):=by
 exact oC ffold_fault (.b 3 false<|.b 5 false<|.b 5 false<|.b 5 false .e) (λ_ ez=>ai (sm h1)<|ai (sm h2)<|ai (sm h2)<|ai (sm h3)<|ez)
theorem fault_cv(h:(b==1)=false):run fns (n+1) 23 [.tup [.int 19,.int k,x,.int b,y]]=M.pure (.int 0):=by
 exact oC ffold_fault (.b 26 false .e) (λ_ ez=>ai (sm h)<|ez)
theorem fault_num_U(u:Unk x):run fns (n+3) 23 [.tup [.int 19,.int k,x,.int 1,y]]=M.pure (.int 0):=by
 exact oC ffold_fault (.m 31 (V.bool false) .e) (λ_ ez=>ai (numeric_U _ u:run fns (n+2) 17 [x]=M.pure (V.bool false))<|ez)
theorem fault_num_F(h:(j==15)=false)(h2:(j==13)=false)(hk:10<k):run fns (n+3) 23 [.tup [.int 19,.int k,.tup [.int 1,.int j,.int a],.int 1,y]]=M.pure (.int 0):=by
 exact oC ffold_fault (.m 31 (V.bool true)<|.m 4 (V.bool false) .e) (λ_ ez=>ai (numeric_i _ h h2:run fns (n+2) 17 [V.tup [V.int 1,V.int j,V.int a]]=M.pure (V.bool true))<|ai (is_number_F _ hk:run fns (n+2) 1 [V.int k]=M.pure (V.bool false))<|ez)
theorem fault_num_K(h:(j==15)=false)(h2:(j==13)=false)(k1:2<=k)(k2:k<=10)(hp:∀m,run fns (m+4) 15 [.int k,.int a,.int c]=M.pure (.tup [x,.int f])):run fns (n+5) 23 [.tup [.int 19,.int k,.tup [.int 1,.int j,.int a],.int 1,.int c]]=M.pure (.int f):=by
 exact oC ffold_fault (.m 31 (V.bool true)<|.m 4 (V.bool true)<|.m 9 (V.tup [x,V.int f]) .e) (λ_ ez=>ai (numeric_i _ h h2:run fns (n+4) 17 [V.tup [V.int 1,V.int j,V.int a]]=M.pure (V.bool true))<|ai (is_number_T _ k1 k2:run fns (n+4) 1 [V.int k]=M.pure (V.bool true))<|ai (hp (n))<|ez)
theorem conv_num_U(u:Unk x):run fns (n+4) 34 [.tup [.int 19,.int k,x,.int 1,y]]=M.pure (.tup [.int 19,.int k,x,.int 1,y]):=by
 exact v19 (oC ffold_convert (.m 34 (V.bool false) .e) (λ_ ez=>ai (numeric_U _ u:run fns (n+2) 17 [x]=M.pure (V.bool false))<|ez))
theorem conv_num_s(h:(j==15)=false)(h2:(j==13)=false)(k1:2<=k)(k2:k<=10)(hp:∀m,run fns (m+4) 15 [.int k,.int a,.int c]=M.pure (.tup [.int b,.int f])):run fns (n+6) 34 [.tup [.int 19,.int k,.tup [.int 1,.int j,.int a],.int 1,.int c]]=M.pure (.tup [.int 1,.int k,.int b]):=by
 exact v19 (oC ffold_convert (.m 34 (V.bool true)<|.m 5 (V.bool true)<|.m 10 (V.tup [V.int b,V.int f])<|.m 0 (V.tup [V.int 1,V.int k,V.int b]) .e) (λ_ ez=>ai (numeric_i _ h h2:run fns (n+4) 17 [V.tup [V.int 1,V.int j,V.int a]]=M.pure (V.bool true))<|ai (is_number_T _ k1 k2:run fns (n+4) 1 [V.int k]=M.pure (V.bool true))<|ai (hp (n))<|ai (made_s (k:=k) (n+3) (r:=[V.tup [V.int 1,V.int j,V.int a],V.int 1,V.int c]) (v:=b) (f:=f) (cd:=V.int 19))<|ez))
theorem conv_num_n(h:(j==15)=false)(h2:(j==13)=false)(k1:2<=k)(k2:k<=10)(hp:∀m,run fns (m+4) 15 [.int k,.int a,.int c]=M.pure (.tup [.none,.int f])):run fns (n+6) 34 [.tup [.int 19,.int k,.tup [.int 1,.int j,.int a],.int 1,.int c]]=M.pure (.tup [.int 19,.int k,.tup [.int 1,.int j,.int a],.int 1,.int c]):=by
 exact v19 (oC ffold_convert (.m 34 (V.bool true)<|.m 5 (V.bool true)<|.m 10 (V.tup [V.none,V.int f])<|.m 0 (V.tup [V.int 19,V.int k,V.tup [V.int 1,V.int j,V.int a],V.int 1,V.int c]) .e) (λ_ ez=>ai (numeric_i _ h h2:run fns (n+4) 17 [V.tup [V.int 1,V.int j,V.int a]]=M.pure (V.bool true))<|ai (is_number_T _ k1 k2:run fns (n+4) 1 [V.int k]=M.pure (V.bool true))<|ai (hp (n))<|ai (by simp only[made_n]:run fns (n+4) 18 [V.tup [V.int 19,V.int k,V.tup [V.int 1,V.int j,V.int a],V.int 1,V.int c],V.tup [V.none,V.int f]]=M.pure (V.tup [V.int 19,V.int k,V.tup [V.int 1,V.int j,V.int a],V.int 1,V.int c]))<|ez))
theorem conv_E_in(h:(j==15)=false)(h2:(j==13)=false)(hk:10<k)(a1:0<=a)(a2:a<=127):run fns (n+4) 34 [.tup [.int 19,.int k,.tup [.int 1,.int j,.int a],.int 1,y]]=M.pure (.tup [.int 1,.int k,.int a]):=by
 exact v19 (oC ffold_convert (.m 34 (V.bool true)<|.m 5 (V.bool false)<|.b 5 true<|.b 4 true .e) (λ_ ez=>ai (numeric_i _ h h2:run fns (n+2) 17 [V.tup [V.int 1,V.int j,V.int a]]=M.pure (V.bool true))<|ai (is_number_F _ hk:run fns (n+2) 1 [V.int k]=M.pure (V.bool false))<|ai (sd a1)<|ai (sd a2)<|ez))
theorem conv_same(h:(j==15)=false):run fns (n+4) 34 [.tup [.int 19,.int k,.tup [.int 1,.int j,v],.int 10,y]]=M.pure (.tup [.int 1,.int k,v]):=by
 exact v19 (oC ffold_convert (.m 8 (V.bool true) .e) (λ_ ez=>ai (known_K _ h:run fns (n+2) 16 [V.tup [V.int 1,V.int j,v]]=M.pure (V.bool true))<|ez))
theorem conv_E_out(h:(j==15)=false)(h2:(j==13)=false)(hk:10<k)(ha:¬(0<=a/\a<=127)):run fns (n+4) 34 [.tup [.int 19,.int k,.tup [.int 1,.int j,.int a],.int 1,y]]=M.pure (.tup [.int 19,.int k,.tup [.int 1,.int j,.int a],.int 1,y]):=by
 by_cases a1:0<=a
 ·exact v19 (oC ffold_convert (.m 34 (.bool true)<|.m 5 (.bool false)<|.b 5 true<|.b 6 false .e) (λ_ ez=>ai (numeric_i n h h2 (a:=a))<|ai (is_number_F (n+1) hk)<|ai (sd a1)<|ai (decide_eq_false λq=>ha ⟨a1,q⟩) ez))
 ·exact v19 (oC ffold_convert (.m 34 (.bool true)<|.m 5 (.bool false)<|.b 5 false .e) (λ_ ez=>ai (numeric_i n h h2 (a:=a))<|ai (is_number_F (n+1) hk)<|ai (sm (decide_eq_false a1)) ez))
theorem conv_box:run fns (n+4) 34 [.tup [.int 19,.int k,x,.int 4,y]]=M.pure (.tup [.int 19,.int k,x,.int 4,y]):=oC ffold .e (λ_ ez=>ez)
theorem conv_null_s(h:(j==15)=false)(hk:k=13\/k=12):run fns (n+4) 34 [.tup [.int 19,.int k,.tup [.int 1,.int j,v],.int 8,y]]=M.pure (.tup [.int 1,.int k,.none]):=by
 rcases hk with rfl|rfl
 ·exact v19 (oC ffold_convert (.m 15 (V.bool true) .e) (λ_ ez=>ai (known_K (n+1) h (v:=v)) ez))
 ·exact v19 (oC ffold_convert (.m 15 (V.bool true) .e) (λ_ ez=>ai (known_K (n+1) h (v:=v)) ez))
theorem conv_null_C:run fns (n+4) 34 [.tup [.int 19,.int 41,.tup [.int 1,.int 14,.none],.int 8,y]]=M.pure (.tup [.int 19,.int 41,.tup [.int 1,.int 14,.none],.int 8,y]):=oC ffold .e (λ_ ez=>ez)
theorem conv_ref_no(hb:b=2\/b=3)(hi:∀m,run fns (m+2) 28 [x]=M.pure (.bool false)):run fns (n+4) 34 [.tup [.int 19,.int k,x,.int b,y]]=M.pure (.tup [.int 19,.int k,x,.int b,y]):=by
 rcases hb with rfl|rfl
 ·exact v19 (oC ffold_convert (.m 24 (V.bool false) .e) (λ_ ez=>ai (hi n) ez))
 ·exact v19 (oC ffold_convert (.m 27 (V.bool false) .e) (λ_ ez=>ai (hi n) ez))
theorem conv_ref_so(hb:b=2\/b=3)(hk:k=13\/k=12)(hi:∀m,run fns (m+2) 28 [x]=M.pure (.bool true)):run fns (n+4) 34 [.tup [.int 19,.int k,x,.int b,y]]=M.pure (.tup [.int 1,.int k,.none]):=by
 rcases hb with rfl|rfl<;>rcases hk with rfl|rfl
 ·exact v19 (oC ffold_convert (.m 24 (V.bool true) .e) (λ_ ez=>ai (hi n) ez))
 ·exact v19 (oC ffold_convert (.m 24 (V.bool true) .e) (λ_ ez=>ai (hi n) ez))
 ·exact v19 (oC ffold_convert (.m 27 (V.bool true) .e) (λ_ ez=>ai (hi n) ez))
 ·exact v19 (oC ffold_convert (.m 27 (V.bool true) .e) (λ_ ez=>ai (hi n) ez))
theorem conv_ref_C(hi:∀m,run fns (m+2) 28 [x]=M.pure (.bool true)):run fns (n+4) 34 [.tup [.int 19,.int 41,x,.int 2,y]]=M.pure (.tup [.int 19,.int 41,.tup [.int 1,.int 14,.none],.int 8,.int 0]):=
 v19 (oC ffold_convert (.m 24 (V.bool true) .e) (λ_ ez=>ai (hi n) ez))
theorem conv_cast_C(hi:∀m,run fns (m+2) 28 [x]=M.pure (.bool true)):run fns (n+4) 34 [.tup [.int 19,.int 41,x,.int 3,y]]=M.pure (.tup [.int 19,.int 41,x,.int 3,y]):=
 v19 (oC ffold_convert (.m 27 (V.bool true) .e) (λ_ ez=>ai (hi n) ez))
theorem dflt_0(hk:k=1\/(2<=k/\k<=10)):run fns (n+3) 34 [.tup [.int 12,.int k]]=M.pure (.tup [.int 1,.int k,.int 0]):=by
 rcases hk with rfl|⟨h1,h2⟩
 ·exact oC ffold .e (λ_ ez=>ez)
 ·exact v12 (oC ffold_default (.b 2 false<|.m 4 (V.bool true) .e) (λ_ ez=>ai (sm (beq_false_of_ne λq:k=1=>absurd h1 (q▸(by decide))))<|ai (is_number_T (n+1) h1 h2) ez))
theorem dflt_n(hk:k=13\/k=12):run fns (n+3) 34 [.tup [.int 12,.int k]]=M.pure (.tup [.int 1,.int k,.none]):=by
 rcases hk with rfl|rfl<;>exact oC ffold .e (λ_ ez=>ez)
theorem dflt_o(hk:k=40\/k=41):run fns (n+3) 34 [.tup [.int 12,.int k]]=M.pure (.tup [.int 12,.int k]):=by
 rcases hk with rfl|rfl<;>exact oC ffold .e (λ_ ez=>ez)
end
section
variable{a b c d e f g x y z:V}{r:List V}
theorem tupL(h:r.length<=lim):bifV .tuple [.lst r]=some (.tup r):=if_pos h
theorem addT(h:r≠[])(h2:r.length<=1000):binV .Add (.tup [a,b]) (.tup r)=some (.tup (a::b::r)):=by
 show(if[a,b]≠[]/\r≠[]then mkTup ([a,b]++r)else none)=_
 rw[if_pos ⟨by exact nofun,h⟩]
 exact if_pos (by simp;unfold lim;lia)
theorem lenL(h:r.length<=lim):bifV .len [.lst r]=some (.int r.length):=if_pos h
end
section
variable{k j c l q a b d f lo hi wd ck:Int}{u v w x y z p sg r3 r4 r5:V}{s t:Str}{r:List V}(n:Nat)
theorem put_c(hc:c=1\/c=2):run fns (n+1) 44 [.tup [.int c,.int k,sg,r3,r4,r5],x,y]=M.pure (.tup [.int c,.int k,sg]):=by
 refine(run_b n 44 _ (d:=f_law_put) rfl rfl).trans ?_
 rcases hc with rfl|rfl
 ·exact oB .e (λ_ ez=>ez)
 ·exact oB .e (λ_ ez=>ez)
theorem put_d:run fns (n+1) 44 [.tup [.int 12,.int k,sg,r3,r4,r5],x,y]=M.pure (.tup [.int 12,.int k]):=by
 refine(run_b n 44 _ (d:=f_law_put) rfl rfl).trans ?_
 exact oB .e (λ_ ez=>ez)
theorem put_un:run fns (n+1) 44 [.tup [.int 13,.int k,sg,r3,r4,r5],.lst [x],y]=M.pure (.tup [.int 13,.int k,sg,x,y]):=by
 refine(run_b n 44 _ (d:=f_law_put) rfl rfl).trans ?_
 exact oB .e (λ_ ez=>ez)
theorem put_bin:run fns (n+1) 44 [.tup [.int 14,.int k,sg,r3,r4,r5],.lst [x,z],y]=M.pure (.tup [.int 14,.int k,sg,x,z,y]):=by
 refine(run_b n 44 _ (d:=f_law_put) rfl rfl).trans ?_
 exact oB .e (λ_ ez=>ez)
theorem put_num:run fns (n+1) 44 [.tup [.int 19,.int k,.int 1,r3,r4,r5],.lst [x],y]=M.pure (.tup [.int 19,.int k,x,.int 1,y]):=by
 refine(run_b n 44 _ (d:=f_law_put) rfl rfl).trans ?_
 exact oB .e (λ_ ez=>ez)
theorem put_cv(h:(b==1)=false):run fns (n+1) 44 [.tup [.int 19,.int k,.int b,r3,r4,r5],.lst [x],y]=M.pure (.tup [.int 19,.int k,x,.int b,.int 0]):=by
 exact oC f_law_put (.b 33 false .e) (λ_ ez=>ai (sm h)<|ez)
theorem put_cat(h:r.length<=lim):run fns (n+1) 44 [.tup [.int 26,.int k,sg,r3,r4,r5],.lst r,y]=M.pure (.tup [.int 26,.int k,.tup r]):=by
 exact oC f_law_put (.v 34 (V.tup r) .e) (λ_ ez=>ai (tupL h)<|ez)
theorem put_call(h:r.length<=lim):run fns (n+1) 44 [.tup [.int 8,.int k,sg,r3,r4,r5],.lst r,y]=M.pure (.tup [.int 8,.int k,.none,.tup [.int 7,.int 7,.tup []],.tup r,.int 0]):=by
 refine(run_b n 44 _ (d:=f_law_put) rfl rfl).trans ?_
 have m0:mkTup []=some (.tup []):=rfl
 exact oB (.v 37 (V.tup [])<|.v 2 (V.tup r) .e) (λ_ ez=>ai m0<|ai (tupL h)<|ez)
theorem put_ks(hc:c=15\/c=16\/c=17)(h:r≠[])(h2:r.length<=1000):run fns (n+1) 44 [.tup [.int c,.int k,sg,r3,r4,r5],.lst r,y]=M.pure (.tup (.int c::.int k::r)):=by
 refine(run_b n 44 _ (d:=f_law_put) rfl rfl).trans ?_
 have h3:r.length<=lim:=by unfold lim;exact Nat.le_trans (by assumption) (by decide)
 rcases hc with rfl|rfl|rfl
 ·exact oB (.v 39 (V.tup r)<|.v 0 (V.tup (V.int 15::V.int k::r)) .e) (λ_ ez=>ai (tupL h3)<|ai (addT h h2 (a:=V.int 15) (b:=V.int k))<|ez)
 ·exact oB (.v 39 (V.tup r)<|.v 0 (V.tup (V.int 16::V.int k::r)) .e) (λ_ ez=>ai (tupL h3)<|ai (addT h h2 (a:=V.int 16) (b:=V.int k))<|ez)
 ·exact oB (.v 39 (V.tup r)<|.v 0 (V.tup (V.int 17::V.int k::r)) .e) (λ_ ez=>ai (tupL h3)<|ai (addT h h2 (a:=V.int 17) (b:=V.int k))<|ez)
theorem span_(h:(k=2/\lo=0/\hi=65535)\/(k=3/\lo=-128/\hi=127)\/(k=4/\lo=0/\hi=255)\/(k=5/\lo=-32768/\hi=32767)\/(k=6/\lo=0/\hi=65535)\/(k=7/\lo=-2147483648/\hi=2147483647)\/(k=8/\lo=0/\hi=4294967295)\/(k=9/\lo=-9223372036854775808/\hi=9223372036854775807)\/(k=10/\lo=0/\hi=18446744073709551615)):
  run fns (n+1) 37 [.int k]=M.pure (.tup [.int lo,.int hi]):=by
 rcases h with⟨rfl,rfl,rfl⟩|⟨rfl,rfl,rfl⟩|⟨rfl,rfl,rfl⟩|⟨rfl,rfl,rfl⟩|⟨rfl,rfl,rfl⟩|⟨rfl,rfl,rfl⟩|⟨rfl,rfl,rfl⟩|⟨rfl,rfl,rfl⟩|⟨rfl,rfl,rfl⟩<;>rfl
theorem text_s:run fns (n+2) 32 [.tup [.int 1,.int 13,.str s]]=M.pure (.str s):=by
 exact oC ftext_part (.m 1 (V.bool true) .e) (λ_ ez=>ai (known_K _ (show((13:Int)==15)=false from rfl):run fns (n+1) 16 [V.tup [V.int 1,V.int 13,V.str s]]=M.pure (V.bool true))<|ez)
theorem text_n(h:(k==15)=false):run fns (n+2) 32 [.tup [.int 1,.int k,.none]]=M.pure (.str (Str.ofString "")):=by
 exact oC ftext_part (.m 1 (V.bool true) .e) (λ_ ez=>ai (known_K _ h:run fns (n+1) 16 [V.tup [V.int 1,V.int k,V.none]]=M.pure (V.bool true))<|ez)
theorem text_U(u:Unk x):run fns (n+2) 32 [x]=M.pure .none:=by
 exact oC ftext_part (.m 1 (V.bool false) .e) (λ_ ez=>ai (u.kn (n))<|ez)
end
section
variable{k a b lo hi wd:Int}{x y:V}{t:Bool}{s:Str}(n:Nat)
theorem two_eq(h:cmpV .Eq x y=some t):run fns (n+1) 48 [.str (Str.ofString "=="),.int k,x,y]=M.pure (.tup [.int (b2i t),.int 0]):=by
 refine(run_b n 48 _ (d:=f_law_two) rfl rfl).trans ?_
 cases t
 ·exact oB (.b 7 false .e) (λ_ ez=>ai h<|ez)
 ·exact oB (.b 7 true .e) (λ_ ez=>ai h<|ez)
theorem two_ne(h:cmpV .Eq x y=some t):run fns (n+1) 48 [.str (Str.ofString "!="),.int k,x,y]=M.pure (.tup [.int (b2i (!t)),.int 0]):=by
 refine(run_b n 48 _ (d:=f_law_two) rfl rfl).trans ?_
 cases t
 ·exact oB (.b 7 false .e) (λ_ ez=>ai h<|ez)
 ·exact oB (.b 7 true .e) (λ_ ez=>ai h<|ez)
theorem two_lt:run fns (n+1) 48 [.str (Str.ofString "<"),.int k,.int a,.int b]=M.pure (.tup [.int (b2i (decide (a<b))),.int 0]):=by
 refine(run_b n 48 _ (d:=f_law_two) rfl rfl).trans ?_
 cases h:decide (a<b)
 ·exact oB (.b 12 false .e) (λ_ ez=>ai (sm h)<|ez)
 ·exact oB (.b 12 true .e) (λ_ ez=>ai (sm h)<|ez)
theorem two_ge:run fns (n+1) 48 [.str (Str.ofString ">="),.int k,.int a,.int b]=M.pure (.tup [.int (b2i (!decide (a<b))),.int 0]):=by
 refine(run_b n 48 _ (d:=f_law_two) rfl rfl).trans ?_
 cases h:decide (a<b)
 ·exact oB (.b 12 false .e) (λ_ ez=>ai (sm h)<|ez)
 ·exact oB (.b 12 true .e) (λ_ ez=>ai (sm h)<|ez)
theorem two_gt:run fns (n+1) 48 [.str (Str.ofString ">"),.int k,.int a,.int b]=M.pure (.tup [.int (b2i (decide (b<a))),.int 0]):=by
 refine(run_b n 48 _ (d:=f_law_two) rfl rfl).trans ?_
 cases h:decide (b<a)
 ·exact oB (.b 17 false .e) (λ_ ez=>ai (sm h)<|ez)
 ·exact oB (.b 17 true .e) (λ_ ez=>ai (sm h)<|ez)
theorem two_le:run fns (n+1) 48 [.str (Str.ofString "<="),.int k,.int a,.int b]=M.pure (.tup [.int (b2i (!decide (b<a))),.int 0]):=by
 refine(run_b n 48 _ (d:=f_law_two) rfl rfl).trans ?_
 cases h:decide (b<a)
 ·exact oB (.b 17 false .e) (λ_ ez=>ai (sm h)<|ez)
 ·exact oB (.b 17 true .e) (λ_ ez=>ai (sm h)<|ez)
theorem two_and:run fns (n+1) 48 [.str (Str.ofString "&"),.int k,.int a,.int b]=M.pure (.tup [.int (Builtin.bitAnd a b),.int 0]):=by
 refine(run_b n 48 _ (d:=f_law_two) rfl rfl).trans ?_
 exact oB .e (λ_ ez=>ez)
theorem two_or(h:(Builtin.bitAnd a b).natAbs<big):run fns (n+1) 48 [.str (Str.ofString "|"),.int k,.int a,.int b]=M.pure (.tup [.int (Builtin.bitOr a b),.int 0]):=by
 rw[bitOr_and,←Int.mul_one (Builtin.bitAnd a b)]
 exact oC f_law_two (.v 31 (.int (Builtin.bitAnd a b*1)) .e) (λ_ ez=>ai (bmul ⟨h,(by decide:(1:Int).natAbs<big)⟩) ez)
theorem two_xor(h:(Builtin.bitAnd a b).natAbs<big):run fns (n+1) 48 [.str (Str.ofString "^"),.int k,.int a,.int b]=M.pure (.tup [.int (Builtin.bitXor a b),.int 0]):=by
 rw[bitXor_and,Int.mul_comm]
 exact oC f_law_two (.v 31 (.int (Builtin.bitAnd a b*2)) .e) (λ_ ez=>ai (bmul ⟨h,(by decide:(2:Int).natAbs<big)⟩) ez)
end
section
variable{k a b lo hi wd:Int}{x y:V}{t:Bool}{s:Str}(n:Nat)
theorem Num4.span(h:Num4 k lo hi wd):run fns (n+1) 37 [.int k]=M.pure (.tup [.int lo,.int hi]):=by
 refine span_ n ?_
 rcases h.all with⟨rfl,rfl,rfl,_⟩|⟨rfl,rfl,rfl,_⟩|⟨rfl,rfl,rfl,_⟩|⟨rfl,rfl,rfl,_⟩<;>decide
theorem bpow(h:0<=b/\b<=64):binV .Pow (.int 2) (.int b)=some (.int (2^b.toNat)):=if_pos ⟨rfl,h⟩
theorem pow_small(h0:0<=b)(h:b<=64):((2:Int)^b.toNat).natAbs<big/\(0:Int)<2^b.toNat/\((2:Int)^b.toNat)≠0:=by
 have hp:(0:Int)<2^b.toNat:=Int.pow_pos (by constructor)
 have h1:b.toNat<=64:=by lia
 have h2:(2:Nat)^b.toNat<=2^64:=Nat.pow_le_pow_right (by exact Nat.succ_pos _) h1
 have h3:((2:Int)^b.toNat)=((2^b.toNat:Nat):Int):=by push_cast;rfl
 refine⟨?_,hp,by lia⟩
 rw[h3,Int.natAbs_natCast]
 exact Nat.lt_of_le_of_lt h2 (by decide)
theorem small_big(h:a.natAbs<2^64):a.natAbs<big:=Nat.lt_trans h (by decide)
theorem two_shl7(h1:-2147483648<=a)(h2:a<=2147483647):run fns (n+2) 48 [.str (Str.ofString "<<"),.int 7,.int a,.int b]=M.pure (.tup [.int (-2147483648+(a*2^(b%32).toNat-(-2147483648))%4294967296),.int 0]):=by
 refine(run_b (n+1) 48 _ (d:=f_law_two) rfl rfl).trans ?_
 obtain⟨m1,m2⟩:=mod_range num7 b
 obtain⟨p1,p2,p3⟩:=pow_small m1 m2
 have hs:=num7.span n
 have ha:=small_big (num7.small h1 h2)
 have hb:binV .Pow (.int 2) (.int (b%32))=some (.int (2^(b%32).toNat)):=bpow ⟨m1,m2⟩
 have hm:=bmul ⟨ha,p1⟩
 have hmo:binV .Mod (.int b) (.int 32)=some (.int (b%32)):=by rw[bmod (by exact nofun),Int.fmod_eq_emod_of_nonneg b (by constructor)]
 generalize hX:a*2^(b%32).toNat=X at hm ⊢
 have hM0:binV .Mod (.int X) (.int 4294967296)=some (.int (X%4294967296)):=by rw[bmod (by exact nofun),Int.fmod_eq_emod_of_nonneg X (by constructor)]
 have hM:binV .Mod (.int X) (.int (2147483647- -2147483648+1))=some (.int (X%4294967296)):=hM0
 cases e:decide (2147483647<X%4294967296)
 ·rw[show -2147483648+(X-(-2147483648))%4294967296=X%4294967296 from by have e':=of_decide_eq_false e;lia]
  exact oB (.m 25 (V.tup [V.int (-2147483648),V.int 2147483647])<|.v 12 (V.int (b%32))<|.v 0 (V.int (2^Int.toNat (b%32)))<|.v 6 (V.int X)<|.v 4 (V.int (X%4294967296))<|.b 2 false .e) (λ_ ez=>ai (by simp only[hs,Int.reduceNeg]:run fns (n+1) 37 [V.int 7]=M.pure (V.tup [V.int (-2147483648),V.int 2147483647]))<|ai hmo<|ai hb<|ai hm<|ai hM<|ai (sm e)<|ez)
 ·rw[show -2147483648+(X-(-2147483648))%4294967296=X%4294967296-(2147483647- -2147483648+1)from by have e':=of_decide_eq_true e;lia]
  exact oB (.m 25 (V.tup [V.int (-2147483648),V.int 2147483647])<|.v 12 (V.int (b%32))<|.v 0 (V.int (2^Int.toNat (b%32)))<|.v 6 (V.int X)<|.v 4 (V.int (X%4294967296))<|.b 2 true .e) (λ_ ez=>ai (by simp only[hs,Int.reduceNeg]:run fns (n+1) 37 [V.int 7]=M.pure (V.tup [V.int (-2147483648),V.int 2147483647]))<|ai hmo<|ai hb<|ai hm<|ai hM<|ai (sm e)<|ez)
theorem two_shr7(h1:-2147483648<=a)(h2:a<=2147483647):run fns (n+2) 48 [.str (Str.ofString ">>"),.int 7,.int a,.int b]=M.pure (.tup [.int (a.fdiv (2^(b%32).toNat)),.int 0]):=by
 refine(run_b (n+1) 48 _ (d:=f_law_two) rfl rfl).trans ?_
 obtain⟨m1,m2⟩:=mod_range num7 b
 obtain⟨p1,p2,p3⟩:=pow_small m1 m2
 have hs:=num7.span n
 have ha:=small_big (num7.small h1 h2)
 have hb:binV .Pow (.int 2) (.int (b%32))=some (.int (2^(b%32).toNat)):=bpow ⟨m1,m2⟩
 have hd:=bdiv ⟨p3,ha,p1⟩
 have hmo:binV .Mod (.int b) (.int 32)=some (.int (b%32)):=by rw[bmod (by exact nofun),Int.fmod_eq_emod_of_nonneg b (by constructor)]
 have hle:¬2147483647<a.fdiv (2^(b%32).toNat):=by
  rw[Int.fdiv_eq_ediv_of_nonneg a (Int.le_of_lt p2)]
  have:=Int.ediv_le_self (a:=a) (b:=2^(b%32).toNat)
  by_cases q:0<=a
  ·have:=this q;lia
  ·have:a/2^(b%32).toNat<0:=Int.ediv_neg_of_neg_of_pos (by lia) p2
   lia
 generalize a.fdiv (2^(b%32).toNat)=X at hd hle ⊢
 exact oB (.m 25 (V.tup [V.int (-2147483648),V.int 2147483647])<|.v 12 (V.int (b%32))<|.v 0 (V.int (2^Int.toNat (b%32)))<|.v 6 (V.int X)<|.b 2 false .e) (λ_ ez=>ai (by simp only[hs,Int.reduceNeg]:run fns (n+1) 37 [V.int 7]=M.pure (V.tup [V.int (-2147483648),V.int 2147483647]))<|ai hmo<|ai hb<|ai hd<|ai (sn hle)<|ez)
theorem two_shl8(h1:0<=a)(h2:a<=4294967295):run fns (n+2) 48 [.str (Str.ofString "<<"),.int 8,.int a,.int b]=M.pure (.tup [.int (0+(a*2^(b%32).toNat-0)%4294967296),.int 0]):=by
 refine(run_b (n+1) 48 _ (d:=f_law_two) rfl rfl).trans ?_
 obtain⟨m1,m2⟩:=mod_range num8 b
 obtain⟨p1,p2,p3⟩:=pow_small m1 m2
 have hs:=num8.span n
 have ha:=small_big (num8.small h1 h2)
 have hb:binV .Pow (.int 2) (.int (b%32))=some (.int (2^(b%32).toNat)):=bpow ⟨m1,m2⟩
 have hm:=bmul ⟨ha,p1⟩
 have hmo:binV .Mod (.int b) (.int 32)=some (.int (b%32)):=by rw[bmod (by exact nofun),Int.fmod_eq_emod_of_nonneg b (by constructor)]
 generalize hX:a*2^(b%32).toNat=X at hm ⊢
 have hM0:binV .Mod (.int X) (.int 4294967296)=some (.int (X%4294967296)):=by rw[bmod (by exact nofun),Int.fmod_eq_emod_of_nonneg X (by constructor)]
 have hM:binV .Mod (.int X) (.int (4294967295-0+1))=some (.int (X%4294967296)):=hM0
 cases e:decide (4294967295<X%4294967296)
 ·rw[show 0+(X-0)%4294967296=X%4294967296 from by have e':=of_decide_eq_false e;lia]
  exact oB (.m 25 (V.tup [V.int 0,V.int 4294967295])<|.v 12 (V.int (b%32))<|.v 0 (V.int (2^Int.toNat (b%32)))<|.v 6 (V.int X)<|.v 4 (V.int (X%4294967296))<|.b 2 false .e) (λ_ ez=>ai (by simp only[hs]:run fns (n+1) 37 [V.int 8]=M.pure (V.tup [V.int 0,V.int 4294967295]))<|ai hmo<|ai hb<|ai hm<|ai hM<|ai (sm e)<|ez)
 ·rw[show 0+(X-0)%4294967296=X%4294967296-(4294967295-0+1)from by have e':=of_decide_eq_true e;lia]
  exact oB (.m 25 (V.tup [V.int 0,V.int 4294967295])<|.v 12 (V.int (b%32))<|.v 0 (V.int (2^Int.toNat (b%32)))<|.v 6 (V.int X)<|.v 4 (V.int (X%4294967296))<|.b 2 true .e) (λ_ ez=>ai (by simp only[hs]:run fns (n+1) 37 [V.int 8]=M.pure (V.tup [V.int 0,V.int 4294967295]))<|ai hmo<|ai hb<|ai hm<|ai hM<|ai (sm e)<|ez)
theorem two_shr8(h1:0<=a)(h2:a<=4294967295):run fns (n+2) 48 [.str (Str.ofString ">>"),.int 8,.int a,.int b]=M.pure (.tup [.int (a.fdiv (2^(b%32).toNat)),.int 0]):=by
 refine(run_b (n+1) 48 _ (d:=f_law_two) rfl rfl).trans ?_
 obtain⟨m1,m2⟩:=mod_range num8 b
 obtain⟨p1,p2,p3⟩:=pow_small m1 m2
 have hs:=num8.span n
 have ha:=small_big (num8.small h1 h2)
 have hb:binV .Pow (.int 2) (.int (b%32))=some (.int (2^(b%32).toNat)):=bpow ⟨m1,m2⟩
 have hd:=bdiv ⟨p3,ha,p1⟩
 have hmo:binV .Mod (.int b) (.int 32)=some (.int (b%32)):=by rw[bmod (by exact nofun),Int.fmod_eq_emod_of_nonneg b (by constructor)]
 have hle:¬4294967295<a.fdiv (2^(b%32).toNat):=by
  rw[Int.fdiv_eq_ediv_of_nonneg a (Int.le_of_lt p2)]
  have:=Int.ediv_le_self (a:=a) (b:=2^(b%32).toNat)
  by_cases q:0<=a
  ·have:=this q;lia
  ·have:a/2^(b%32).toNat<0:=Int.ediv_neg_of_neg_of_pos (by contradiction) p2
   contradiction
 generalize a.fdiv (2^(b%32).toNat)=X at hd hle ⊢
 exact oB (.m 25 (V.tup [V.int 0,V.int 4294967295])<|.v 12 (V.int (b%32))<|.v 0 (V.int (2^Int.toNat (b%32)))<|.v 6 (V.int X)<|.b 2 false .e) (λ_ ez=>ai (by simp only[hs]:run fns (n+1) 37 [V.int 8]=M.pure (V.tup [V.int 0,V.int 4294967295]))<|ai hmo<|ai hb<|ai hd<|ai (sn hle)<|ez)
theorem two_shl9(h1:-9223372036854775808<=a)(h2:a<=9223372036854775807):run fns (n+2) 48 [.str (Str.ofString "<<"),.int 9,.int a,.int b]=M.pure (.tup [.int (-9223372036854775808+(a*2^(b%64).toNat-(-9223372036854775808))%18446744073709551616),.int 0]):=by
 refine(run_b (n+1) 48 _ (d:=f_law_two) rfl rfl).trans ?_
 obtain⟨m1,m2⟩:=mod_range num9 b
 obtain⟨p1,p2,p3⟩:=pow_small m1 m2
 have hs:=num9.span n
 have ha:=small_big (num9.small h1 h2)
 have hb:binV .Pow (.int 2) (.int (b%64))=some (.int (2^(b%64).toNat)):=bpow ⟨m1,m2⟩
 have hm:=bmul ⟨ha,p1⟩
 have hmo:binV .Mod (.int b) (.int 64)=some (.int (b%64)):=by rw[bmod (by exact nofun),Int.fmod_eq_emod_of_nonneg b (by constructor)]
 generalize hX:a*2^(b%64).toNat=X at hm ⊢
 have hM0:binV .Mod (.int X) (.int 18446744073709551616)=some (.int (X%18446744073709551616)):=by rw[bmod (by exact nofun),Int.fmod_eq_emod_of_nonneg X (by constructor)]
 have hM:binV .Mod (.int X) (.int (9223372036854775807- -9223372036854775808+1))=some (.int (X%18446744073709551616)):=hM0
 cases e:decide (9223372036854775807<X%18446744073709551616)
 ·rw[show -9223372036854775808+(X-(-9223372036854775808))%18446744073709551616=X%18446744073709551616 from by have e':=of_decide_eq_false e;lia]
  exact oB (.m 25 (V.tup [V.int (-9223372036854775808),V.int 9223372036854775807])<|.v 12 (V.int (b%64))<|.v 0 (V.int (2^Int.toNat (b%64)))<|.v 6 (V.int X)<|.v 4 (V.int (X%18446744073709551616))<|.b 2 false .e) (λ_ ez=>ai (by simp only[hs,Int.reduceNeg]:run fns (n+1) 37 [V.int 9]=M.pure (V.tup [V.int (-9223372036854775808),V.int 9223372036854775807]))<|ai hmo<|ai hb<|ai hm<|ai hM<|ai (sm e)<|ez)
 ·rw[show -9223372036854775808+(X-(-9223372036854775808))%18446744073709551616=X%18446744073709551616-(9223372036854775807- -9223372036854775808+1)from by have e':=of_decide_eq_true e;lia]
  exact oB (.m 25 (V.tup [V.int (-9223372036854775808),V.int 9223372036854775807])<|.v 12 (V.int (b%64))<|.v 0 (V.int (2^Int.toNat (b%64)))<|.v 6 (V.int X)<|.v 4 (V.int (X%18446744073709551616))<|.b 2 true .e) (λ_ ez=>ai (by simp only[hs,Int.reduceNeg]:run fns (n+1) 37 [V.int 9]=M.pure (V.tup [V.int (-9223372036854775808),V.int 9223372036854775807]))<|ai hmo<|ai hb<|ai hm<|ai hM<|ai (sm e)<|ez)
theorem two_shr9(h1:-9223372036854775808<=a)(h2:a<=9223372036854775807):run fns (n+2) 48 [.str (Str.ofString ">>"),.int 9,.int a,.int b]=M.pure (.tup [.int (a.fdiv (2^(b%64).toNat)),.int 0]):=by
 refine(run_b (n+1) 48 _ (d:=f_law_two) rfl rfl).trans ?_
 obtain⟨m1,m2⟩:=mod_range num9 b
 obtain⟨p1,p2,p3⟩:=pow_small m1 m2
 have hs:=num9.span n
 have ha:=small_big (num9.small h1 h2)
 have hb:binV .Pow (.int 2) (.int (b%64))=some (.int (2^(b%64).toNat)):=bpow ⟨m1,m2⟩
 have hd:=bdiv ⟨p3,ha,p1⟩
 have hmo:binV .Mod (.int b) (.int 64)=some (.int (b%64)):=by rw[bmod (by exact nofun),Int.fmod_eq_emod_of_nonneg b (by constructor)]
 have hle:¬9223372036854775807<a.fdiv (2^(b%64).toNat):=by
  rw[Int.fdiv_eq_ediv_of_nonneg a (Int.le_of_lt p2)]
  have:=Int.ediv_le_self (a:=a) (b:=2^(b%64).toNat)
  by_cases q:0<=a
  ·have:=this q;lia
  ·have:a/2^(b%64).toNat<0:=Int.ediv_neg_of_neg_of_pos (by lia) p2
   lia
 generalize a.fdiv (2^(b%64).toNat)=X at hd hle ⊢
 exact oB (.m 25 (V.tup [V.int (-9223372036854775808),V.int 9223372036854775807])<|.v 12 (V.int (b%64))<|.v 0 (V.int (2^Int.toNat (b%64)))<|.v 6 (V.int X)<|.b 2 false .e) (λ_ ez=>ai (by simp only[hs,Int.reduceNeg]:run fns (n+1) 37 [V.int 9]=M.pure (V.tup [V.int (-9223372036854775808),V.int 9223372036854775807]))<|ai hmo<|ai hb<|ai hd<|ai (sn hle)<|ez)
theorem two_shl10(h1:0<=a)(h2:a<=18446744073709551615):run fns (n+2) 48 [.str (Str.ofString "<<"),.int 10,.int a,.int b]=M.pure (.tup [.int (0+(a*2^(b%64).toNat-0)%18446744073709551616),.int 0]):=by
 refine(run_b (n+1) 48 _ (d:=f_law_two) rfl rfl).trans ?_
 obtain⟨m1,m2⟩:=mod_range num10 b
 obtain⟨p1,p2,p3⟩:=pow_small m1 m2
 have hs:=num10.span n
 have ha:=small_big (num10.small h1 h2)
 have hb:binV .Pow (.int 2) (.int (b%64))=some (.int (2^(b%64).toNat)):=bpow ⟨m1,m2⟩
 have hm:=bmul ⟨ha,p1⟩
 have hmo:binV .Mod (.int b) (.int 64)=some (.int (b%64)):=by rw[bmod (by exact nofun),Int.fmod_eq_emod_of_nonneg b (by constructor)]
 generalize hX:a*2^(b%64).toNat=X at hm ⊢
 have hM0:binV .Mod (.int X) (.int 18446744073709551616)=some (.int (X%18446744073709551616)):=by rw[bmod (by exact nofun),Int.fmod_eq_emod_of_nonneg X (by constructor)]
 have hM:binV .Mod (.int X) (.int (18446744073709551615-0+1))=some (.int (X%18446744073709551616)):=hM0
 cases e:decide (18446744073709551615<X%18446744073709551616)
 ·rw[show 0+(X-0)%18446744073709551616=X%18446744073709551616 from by have e':=of_decide_eq_false e;lia]
  exact oB (.m 25 (V.tup [V.int 0,V.int 18446744073709551615])<|.v 12 (V.int (b%64))<|.v 0 (V.int (2^Int.toNat (b%64)))<|.v 6 (V.int X)<|.v 4 (V.int (X%18446744073709551616))<|.b 2 false .e) (λ_ ez=>ai (by simp only[hs]:run fns (n+1) 37 [V.int 10]=M.pure (V.tup [V.int 0,V.int 18446744073709551615]))<|ai hmo<|ai hb<|ai hm<|ai hM<|ai (sm e)<|ez)
 ·rw[show 0+(X-0)%18446744073709551616=X%18446744073709551616-(18446744073709551615-0+1)from by have e':=of_decide_eq_true e;lia]
  exact oB (.m 25 (V.tup [V.int 0,V.int 18446744073709551615])<|.v 12 (V.int (b%64))<|.v 0 (V.int (2^Int.toNat (b%64)))<|.v 6 (V.int X)<|.v 4 (V.int (X%18446744073709551616))<|.b 2 true .e) (λ_ ez=>ai (by simp only[hs]:run fns (n+1) 37 [V.int 10]=M.pure (V.tup [V.int 0,V.int 18446744073709551615]))<|ai hmo<|ai hb<|ai hm<|ai hM<|ai (sm e)<|ez)
theorem two_shr10(h1:0<=a)(h2:a<=18446744073709551615):run fns (n+2) 48 [.str (Str.ofString ">>"),.int 10,.int a,.int b]=M.pure (.tup [.int (a.fdiv (2^(b%64).toNat)),.int 0]):=by
 refine(run_b (n+1) 48 _ (d:=f_law_two) rfl rfl).trans ?_
 obtain⟨m1,m2⟩:=mod_range num10 b
 obtain⟨p1,p2,p3⟩:=pow_small m1 m2
 have hs:=num10.span n
 have ha:=small_big (num10.small h1 h2)
 have hb:binV .Pow (.int 2) (.int (b%64))=some (.int (2^(b%64).toNat)):=bpow ⟨m1,m2⟩
 have hd:=bdiv ⟨p3,ha,p1⟩
 have hmo:binV .Mod (.int b) (.int 64)=some (.int (b%64)):=by rw[bmod (by exact nofun),Int.fmod_eq_emod_of_nonneg b (by constructor)]
 have hle:¬18446744073709551615<a.fdiv (2^(b%64).toNat):=by
  rw[Int.fdiv_eq_ediv_of_nonneg a (Int.le_of_lt p2)]
  have:=Int.ediv_le_self (a:=a) (b:=2^(b%64).toNat)
  by_cases q:0<=a
  ·have:=this q;lia
  ·have:a/2^(b%64).toNat<0:=Int.ediv_neg_of_neg_of_pos (by contradiction) p2
   contradiction
 generalize a.fdiv (2^(b%64).toNat)=X at hd hle ⊢
 exact oB (.m 25 (V.tup [V.int 0,V.int 18446744073709551615])<|.v 12 (V.int (b%64))<|.v 0 (V.int (2^Int.toNat (b%64)))<|.v 6 (V.int X)<|.b 2 false .e) (λ_ ez=>ai (by simp only[hs]:run fns (n+1) 37 [V.int 10]=M.pure (V.tup [V.int 0,V.int 18446744073709551615]))<|ai hmo<|ai hb<|ai hd<|ai (sn hle)<|ez)
end
section
variable{k a b lo hi wd:Int}{x y:V}{t:Bool}{s:Str}(n:Nat)
theorem tdivI_eq(a b:Int):tdivI a b=a.tdiv b:=by
 unfold tdivI
 rw[Int.fdiv_eq_ediv_of_nonneg _ (Int.natCast_nonneg _)]
 have hab:((a.natAbs:Int)/(b.natAbs:Int))=((a.natAbs/b.natAbs:Nat):Int):=by push_cast;rfl
 rw[hab]
 rcases Int.lt_or_le a 0 with ha|ha<;>rcases Int.lt_or_le b 0 with hb|hb
 ·have e1:a=-(a.natAbs:Int):=by lia
  have e2:b=-(b.natAbs:Int):=by lia
  simp only[decide_eq_true ha,decide_eq_true hb,beq_self_eq_true,if_true]
  conv=>rhs;rw[e1,e2,Int.neg_tdiv,Int.tdiv_neg,Int.neg_neg]
  rfl
 ·have e1:a=-(a.natAbs:Int):=by lia
  have e2:b=(b.natAbs:Int):=by lia
  simp only[decide_eq_true ha,decide_eq_false (Int.not_lt.mpr hb)]
  conv=>rhs;rw[e1,e2,Int.neg_tdiv]
  rfl
 ·have e1:a=(a.natAbs:Int):=by lia
  have e2:b=-(b.natAbs:Int):=by lia
  simp only[decide_eq_false (Int.not_lt.mpr ha),decide_eq_true hb]
  conv=>rhs;rw[e1,e2,Int.tdiv_neg]
  rfl
 ·have e1:a=(a.natAbs:Int):=by lia
  have e2:b=(b.natAbs:Int):=by lia
  simp only[decide_eq_false (Int.not_lt.mpr ha),decide_eq_false (Int.not_lt.mpr hb),beq_self_eq_true,if_true]
  conv=>rhs;rw[e1,e2]
  rfl
theorem tmod_eq(a b:Int):a-tdivI a b*b=a.tmod b:=by
 rw[tdivI_eq,Int.tmod_def,Int.mul_comm]
theorem rest_eq(a b:Int):(a.natAbs:Int).fmod b.natAbs*(if 0<=a then 1 else -1)=a.tmod b:=by
 rw[Int.fmod_eq_emod_of_nonneg _ (Int.natCast_nonneg _)]
 have hab:((a.natAbs:Int)%(b.natAbs:Int))=((a.natAbs%b.natAbs:Nat):Int):=by push_cast;rfl
 rw[hab]
 have hb:a.tmod b=a.tmod (b.natAbs:Int):=by
  rcases Int.natAbs_eq b with e|e
  ·rw[←e]
  ·conv=>lhs;rw[e,Int.tmod_neg]
 rw[hb]
 rcases Int.lt_or_le a 0 with ha|ha
 ·rw[if_neg (by lia)]
  have e1:a=-(a.natAbs:Int):=by lia
  conv=>rhs;rw[e1,Int.neg_tmod]
  rw[Int.mul_neg,Int.mul_one]
  rfl
 ·rw[if_pos ha,Int.mul_one]
  have e1:a=(a.natAbs:Int):=by lia
  conv=>rhs;rw[e1]
  rfl
theorem exact_eq(hb:b≠0):(a-a.tmod b).fdiv b=tdivI a b:=by
 rw[tdivI_eq]
 have:a-a.tmod b=b*a.tdiv b:=by rw[Int.tmod_def];lia
 rw[this,Int.mul_fdiv_cancel_left _ hb]
theorem two_ov(h:Num4 k lo hi wd)(h0:lo<0)(hs:s=Str.ofString "/"\/s=Str.ofString "%"):run fns (n+2) 48 [.str s,.int k,.int lo,.int (-1)]=M.pure (.tup [.int 0,.int 220]):=by
 refine(run_b (n+1) 48 _ (d:=f_law_two) rfl rfl).trans ?_
 rcases hs with rfl|rfl
 ·exact oB (.m 25 (V.tup [V.int lo,V.int hi])<|.b 18 true<|.b 3 true .e) (λ_ ez=>ai (h.span (n))<|ai (by simp only[ceq_i,beq_self_eq_true]:cmpV CmpOp.Eq (V.int lo) (V.int lo)=some true)<|ai (sd h0)<|ez)
 ·exact oB (.m 25 (V.tup [V.int lo,V.int hi])<|.b 18 true<|.b 3 true .e) (λ_ ez=>ai (h.span (n))<|ai (by simp only[ceq_i,beq_self_eq_true]:cmpV CmpOp.Eq (V.int lo) (V.int lo)=some true)<|ai (sd h0)<|ez)
theorem tmod_small(h:a.natAbs<2^64):(a.tmod b).natAbs<big/\(a-a.tmod b).natAbs<big:=by
 have h1:(a.tmod b).natAbs<=a.natAbs:=by
  rw[Int.natAbs_tmod];exact Nat.mod_le _ _
 have h2:(2:Nat)^64+2^64<big:=by decide
 omega
noncomputable abbrev r2(s:String)(k a b lo hi:Int)(x y z:Slot):Env':=[.val (.str (Str.ofString s)),.val (.int k),.val (.int a),.val (.int b),.val (.int lo),.val (.int hi),x,y,z]
section
variable{Φ:Nat->List V->M V}{o:String}{p q u:Slot}{c:Int}
theorem it_i{ρ:Env'}{e:E}{r:Bool}{u v:Int}(h:evE Φ ρ e=M.pure (.bool r)):evE Φ ρ (.ite e (.int u) (.int v))=M.pure (.int (if r=true then u else v)):=by
 show(evE Φ ρ e).bind _=_
 rw[h];cases r<;>rfl
theorem r2_g(h0:(b==-1&&(a==lo&&decide (lo<0)))=false):evE Φ (r2 o k a b lo hi p q u) (.boo true (.cons (.cmp .Eq (.loc 3) (.neg (.int 1))) (.cons (.cmp .Eq (.loc 2) (.loc 4)) (.cons (.cmp .Lt (.loc 4) (.int 0)) .nil))))=M.pure (.bool false):=bo3 rfl rfl rfl h0
theorem r2_s:evE Φ (r2 o k a b lo hi p q u) (.ite (.cmp .GtE (.loc 2) (.int 0)) (.int 1) (.neg (.int 1)))=M.pure (.int (if 0<=a then 1 else -1)):=by
 by_cases h:0<=a
 ·rw[if_pos h];show(if decide (0<=a)=true then _ else _)=_;exact if_pos (decide_eq_true h)
 ·rw[if_neg h];show(if decide (0<=a)=true then _ else _)=_;exact if_neg (by rw[decide_eq_false h];exact Bool.false_ne_true)
theorem r2_r:evE Φ (r2 o k a b lo hi p (.val (.int c)) u) (.ite (.boo true (.cons (.cmp .LtE (.loc 4) (.loc 7)) (.cons (.cmp .LtE (.loc 7) (.loc 5)) .nil))) (.int 0) (.int 220))=M.pure (.int (if(decide (lo<=c)&&decide (c<=hi))=true then 0 else 220)):=it_i (bo2 rfl rfl rfl)
noncomputable def eP:E:=E.pick (Ps.cons (E.str (Str.ofString "+")) (E.bin Operator.Add (E.loc 2) (E.loc 3)) (Ps.cons (E.str (Str.ofString "-")) (E.bin Operator.Sub (E.loc 2) (E.loc 3)) (Ps.cons (E.str (Str.ofString "*")) (E.bin Operator.Mult (E.loc 2) (E.loc 3)) Ps.nil))) (E.loc 0)
theorem pick3{z:V}(hm:a.natAbs<big/\b.natAbs<big)(hz:pickO [.str (Str.ofString "+"),.str (Str.ofString "-"),.str (Str.ofString "*")] [.int (a+b),.int (a-b),.int (a*b)] (.str (Str.ofString o))=some z):evE Φ (r2 o k a b lo hi p q u) eP=M.pure z:=by
 have e:evE Φ (r2 o k a b lo hi p q u) (.bin .Mult (.loc 2) (.loc 3))=M.pure (.int (a*b)):=congrArg M.lift (bmul hm)
 show((M.pure (V.str (Str.ofString "+"))).bind λx=>(M.pure (V.int (a+b))).bind λy=>((M.pure (V.str (Str.ofString "-"))).bind λx=>(M.pure (V.int (a-b))).bind λy=>((M.pure (V.str (Str.ofString "*"))).bind λx=>(evE Φ (r2 o k a b lo hi p q u) (.bin .Mult (.loc 2) (.loc 3))).bind λy=>
  (M.pure (([],[]):List V×List V)).bind λr=>M.pure (x::r.1,y::r.2)).bind λr=>M.pure (x::r.1,y::r.2)).bind λr=>M.pure (x::r.1,y::r.2)).bind (λkv=>(M.pure (.str (Str.ofString o))).bind λx=>M.lift (pickO kv.1 kv.2 x))=_
 rw[e]
 exact congrArg M.lift hz
end
theorem rest_small(ha:a.natAbs<2^64):binV .Mult (.int ((a.natAbs:Int).fmod b.natAbs)) (.int (if 0<=a then 1 else -1))=some (.int (a.tmod b)):=by
 rw[←rest_eq a b]
 refine bmul ⟨?_,by split<;>decide⟩
 rw[Int.fmod_eq_emod_of_nonneg _ (Int.natCast_nonneg _)]
 exact Nat.lt_of_le_of_lt (Nat.mod_le _ _) (small_big ha)
theorem rest_mod(hb:b≠0):binV .Mod (.int (a.natAbs:Int)) (.int (b.natAbs:Int))=some (.int ((a.natAbs:Int).fmod b.natAbs)):=bmod λe=>hb (Int.natAbs_eq_zero.mp (Int.ofNat.inj e))
theorem two_rem(h:Num4 k lo hi wd)(h1:lo<=a)(h2:a<=hi)(hb:b≠0)(h0:(b==-1&&(a==lo&&decide (lo<0)))=false)(hb2:b.natAbs<2^64):run fns (n+2) 48 [.str (Str.ofString "%"),.int k,.int a,.int b]=M.pure (.tup [.int (a.tmod b),.int 0]):=
 oC f_law_two (.m 25 (.tup [.int lo,.int hi])<|.y 0 (.bool false)<|.v 6 (.int ((a.natAbs:Int).fmod b.natAbs))<|.y 0 (.int (if 0<=a then 1 else -1))<|.v 0 (.int (a.tmod b)) .e) (λ_ ez=>ai (h.span n)<|ai (r2_g (Φ:=run fns (n+1)) (o:="%") (k:=k) (hi:=hi) (p:=.none) (q:=.none) (u:=.none) h0)<|ai (rest_mod (a:=a) hb)<|ai (r2_s (Φ:=run fns (n+1)) (o:="%") (a:=a) (b:=b) (lo:=lo) (k:=k) (hi:=hi) (p:=.none) (q:=.none) (u:=.none))<|ai (rest_small (b:=b) (h.small h1 h2)) ez)
theorem two_div(h:Num4 k lo hi wd)(h1:lo<=a)(h2:a<=hi)(hb:b≠0)(h0:(b==-1&&(a==lo&&decide (lo<0)))=false)(hb2:b.natAbs<2^64):run fns (n+2) 48 [.str (Str.ofString "/"),.int k,.int a,.int b]=M.pure (.tup [.int (tdivI a b),.int 0]):=by
 have hd:binV .FloorDiv (.int (a-a.tmod b)) (.int b)=some (.int (tdivI a b)):=by
  rw[←exact_eq hb];exact bdiv ⟨hb,(tmod_small (h.small h1 h2)).2,small_big hb2⟩
 exact oC f_law_two (.m 25 (.tup [.int lo,.int hi])<|.y 0 (.bool false)<|.v 6 (.int ((a.natAbs:Int).fmod b.natAbs))<|.y 0 (.int (if 0<=a then 1 else -1))<|.v 0 (.int (a.tmod b))<|.v 8 (.int (tdivI a b)) .e) (λ_ ez=>ai (h.span n)<|ai (r2_g (Φ:=run fns (n+1)) (o:="/") (k:=k) (hi:=hi) (p:=.none) (q:=.none) (u:=.none) h0)<|ai (rest_mod (a:=a) hb)<|ai (r2_s (Φ:=run fns (n+1)) (o:="/") (a:=a) (b:=b) (lo:=lo) (k:=k) (hi:=hi) (p:=.none) (q:=.none) (u:=.none))<|ai (rest_small (b:=b) (h.small h1 h2))<|ai hd ez)
theorem two_add(h:Num4 k lo hi wd)(ha:a.natAbs<big/\b.natAbs<big):run fns (n+2) 48 [.str (Str.ofString "+"),.int k,.int a,.int b]=M.pure (.tup [.int (a+b),.int (if(decide (lo<=a+b)&&decide (a+b<=hi))=true then 0 else 220)]):=
 oC f_law_two (.m 25 (.tup [.int lo,.int hi])<|.m 11 (.int (a+b))<|.y 0 (.int (if(decide (lo<=a+b)&&decide (a+b<=hi))=true then 0 else 220)) .e) (λ_ ez=>ai (h.span n)<|ai (pick3 (z:=.int (a+b)) (Φ:=run fns (n+1)) (o:="+") (k:=k) (lo:=lo) (hi:=hi) (p:=.none) (q:=.none) (u:=.none) ha (by kernel_rfl))<|ai (r2_r (Φ:=run fns (n+1)) (o:="+") (k:=k) (a:=a) (b:=b) (lo:=lo) (hi:=hi) (p:=.none) (u:=.none) (c:=a+b)) ez)
theorem two_sub(h:Num4 k lo hi wd)(ha:a.natAbs<big/\b.natAbs<big):run fns (n+2) 48 [.str (Str.ofString "-"),.int k,.int a,.int b]=M.pure (.tup [.int (a-b),.int (if(decide (lo<=a-b)&&decide (a-b<=hi))=true then 0 else 220)]):=
 oC f_law_two (.m 25 (.tup [.int lo,.int hi])<|.m 11 (.int (a-b))<|.y 0 (.int (if(decide (lo<=a-b)&&decide (a-b<=hi))=true then 0 else 220)) .e) (λ_ ez=>ai (h.span n)<|ai (pick3 (z:=.int (a-b)) (Φ:=run fns (n+1)) (o:="-") (k:=k) (lo:=lo) (hi:=hi) (p:=.none) (q:=.none) (u:=.none) ha (by kernel_rfl))<|ai (r2_r (Φ:=run fns (n+1)) (o:="-") (k:=k) (a:=a) (b:=b) (lo:=lo) (hi:=hi) (p:=.none) (u:=.none) (c:=a-b)) ez)
theorem two_mul(h:Num4 k lo hi wd)(ha:a.natAbs<big/\b.natAbs<big):run fns (n+2) 48 [.str (Str.ofString "*"),.int k,.int a,.int b]=M.pure (.tup [.int (a*b),.int (if(decide (lo<=a*b)&&decide (a*b<=hi))=true then 0 else 220)]):=
 oC f_law_two (.m 25 (.tup [.int lo,.int hi])<|.m 11 (.int (a*b))<|.y 0 (.int (if(decide (lo<=a*b)&&decide (a*b<=hi))=true then 0 else 220)) .e) (λ_ ez=>ai (h.span n)<|ai (pick3 (z:=.int (a*b)) (Φ:=run fns (n+1)) (o:="*") (k:=k) (lo:=lo) (hi:=hi) (p:=.none) (q:=.none) (u:=.none) ha (by kernel_rfl))<|ai (r2_r (Φ:=run fns (n+1)) (o:="*") (k:=k) (a:=a) (b:=b) (lo:=lo) (hi:=hi) (p:=.none) (u:=.none) (c:=a*b)) ez)
end
section
variable{Φ:Nat->List V->M V}{ρ:Env'}
theorem M.cg{α β:Type}{m:M α}{f g:α->M β}(h:∀x,f x=g x):m.bind f=m.bind g:=congrArg _ (funext h)
theorem loop_cons(g:V->Env'->M (Fl×Env'))(x:V)(xs:List V):loopL g (x::xs) ρ=(g x ρ).bind λp=>match p.1 with
  |.next=>loopL g xs p.2
  |.ret v=>M.pure (.ret v,p.2):=rfl
theorem it_tup{xs:List V}(h:xs.length<=lim):itemsV (.tup xs)=some xs:=if_pos h
theorem it_lst{xs:List V}(h:xs.length<=lim):itemsV (.lst xs)=some xs:=if_pos h
theorem it_rng{n:Nat}:itemsV (.rng (n:Int))=some ((List.range n).map λ(i:Nat)=>V.int i):=by
 have h:-(2^63)<=(n:Int):=by exact Int.natCast_nonneg _
 unfold itemsV
 exact if_pos h
end
section
variable{k c:Int}{s x y z x' y' z':V}{p q t:List V}(n:Nat)
theorem kids_un:run fns (n+2) 3 [.tup [.int 13,x,y,.tup p,z]]=M.pure (.tup [.tup p]):=by kernel_rfl
theorem kids_bin:run fns (n+2) 3 [.tup [.int 14,x,y,.tup p,.tup q,z]]=M.pure (.tup [.tup p,.tup q]):=by kernel_rfl
theorem kids_conv:run fns (n+2) 3 [.tup [.int 19,x,.tup p,y,z]]=M.pure (.tup [.tup p]):=by kernel_rfl
theorem kids_and:run fns (n+2) 3 [.tup [.int 15,x,.tup p,.tup q]]=M.pure (.tup [.tup p,.tup q]):=by kernel_rfl
theorem kids_or:run fns (n+2) 3 [.tup [.int 16,x,.tup p,.tup q]]=M.pure (.tup [.tup p,.tup q]):=by kernel_rfl
theorem kids_cond:run fns (n+2) 3 [.tup [.int 17,x,.tup p,.tup q,.tup t]]=M.pure (.tup [.tup p,.tup q,.tup t]):=by kernel_rfl
theorem kids_loc:run fns (n+2) 3 [.tup [.int 2,x,y]]=M.pure (.tup []):=by kernel_rfl
theorem kids_dflt:run fns (n+2) 3 [.tup [.int 12,x]]=M.pure (.tup []):=by kernel_rfl
theorem with_un:run fns (n+1) 4 [.tup [.int 13,x,y,.tup p,z],.tup [x']]=M.pure (.tup [.int 13,x,y,x',z]):=by kernel_rfl
theorem with_bin:run fns (n+1) 4 [.tup [.int 14,x,y,.tup p,.tup q,z],.tup [x',y']]=M.pure (.tup [.int 14,x,y,x',y',z]):=by kernel_rfl
theorem with_conv:run fns (n+1) 4 [.tup [.int 19,x,.tup p,y,z],.tup [x']]=M.pure (.tup [.int 19,x,x',y,z]):=by kernel_rfl
theorem with_and:run fns (n+1) 4 [.tup [.int 15,x,.tup p,.tup q],.tup [x',y']]=M.pure (.tup [.int 15,x,x',y']):=by kernel_rfl
theorem with_or:run fns (n+1) 4 [.tup [.int 16,x,.tup p,.tup q],.tup [x',y']]=M.pure (.tup [.int 16,x,x',y']):=by kernel_rfl
theorem with_cond:run fns (n+1) 4 [.tup [.int 17,x,.tup p,.tup q,.tup t],.tup [x',y',z']]=M.pure (.tup [.int 17,x,x',y',z']):=by kernel_rfl
theorem kids_cat1:run fns (n+2) 3 [.tup [.int 26,x,.tup [y]]]=M.pure (.tup [y]):=by kernel_rfl
theorem kids_cat2:run fns (n+2) 3 [.tup [.int 26,x,.tup [y,z]]]=M.pure (.tup [y,z]):=by kernel_rfl
theorem kids_cat3:run fns (n+2) 3 [.tup [.int 26,x,.tup [y,z,s]]]=M.pure (.tup [y,z,s]):=by kernel_rfl
theorem with_cat1:run fns (n+1) 4 [.tup [.int 26,x,.tup [y]],.tup [x']]=M.pure (.tup [.int 26,x,.tup [x']]):=by kernel_rfl
theorem with_cat2:run fns (n+1) 4 [.tup [.int 26,x,.tup [y,z]],.tup [x',y']]=M.pure (.tup [.int 26,x,.tup [x',y']]):=by kernel_rfl
theorem with_cat3:run fns (n+1) 4 [.tup [.int 26,x,.tup [y,z,s]],.tup [x',y',z']]=M.pure (.tup [.int 26,x,.tup [x',y',z']]):=by kernel_rfl
theorem kids_call0:run fns (n+2) 3 [.tup [.int 8,x,.none,y,.tup [],z]]=M.pure (.tup []):=by kernel_rfl
theorem kids_call1:run fns (n+2) 3 [.tup [.int 8,x,.none,y,.tup [s],z]]=M.pure (.tup [s]):=by kernel_rfl
theorem kids_call2:run fns (n+2) 3 [.tup [.int 8,x,.none,y,.tup [s,x'],z]]=M.pure (.tup [s,x']):=by kernel_rfl
theorem with_call1:run fns (n+1) 4 [.tup [.int 8,x,.none,y,.tup [s],z],.tup [x']]=M.pure (.tup [.int 8,x,.none,y,.tup [x'],z]):=by kernel_rfl
theorem with_call2:run fns (n+1) 4 [.tup [.int 8,x,.none,y,.tup [s,y'],z],.tup [x',z']]=M.pure (.tup [.int 8,x,.none,y,.tup [x',z'],z]):=by kernel_rfl
end
noncomputable def FA(h:Nat)(e S:V):Prop:=∀n,run fns (n+(h+8)) 35 [e]=M.pure S
theorem run_at{a b f:Nat}{xs:List V}{r:M V}(e:a=b)(h:run fns a f xs=r):run fns b f xs=r:=by subst e;exact h
section
variable{c:Int}{h:Nat}{x y z x' y' z' S e':V}{r:List V}
theorem FA.le{g:Nat}(f:FA h x S)(hg:h<=g):FA g x S:=by
 obtain⟨k,rfl⟩:=Nat.exists_eq_add_of_le hg
 exactλn=>run_at (by lia) (f (n+k))
theorem fa_con:FA h (.tup (.int 1::r)) (.tup (.int 1::r)):=λn=>by
 refine(run_b (n+(h+7)) 35 _ (d:=ffold_all) rfl rfl).trans ?_
 exact oB .e (λ_ ez=>ez)
theorem fa_0(hc:(c==1)=false)(hk:∀m,run fns (m+2) 3 [.tup (.int c::r)]=M.pure (.tup []))(hf:∀m,run fns (m+7) 34 [.tup (.int c::r)]=M.pure S):FA h (.tup (.int c::r)) S:=λn=>by
 refine(run_b (n+(h+7)) 35 _ (d:=ffold_all) rfl rfl).trans ?_
 have k1:run fns (n+(h+7)) 3 [.tup (.int c::r)]=M.pure (.tup []):=run_at rfl (hk (n+(h+5)))
 have f1:run fns (n+(h+7)) 34 [.tup (.int c::r)]=M.pure S:=run_at rfl (hf (n+h))
 have l0:bifV .len [.tup []]=some (.int 0):=rfl
 exact oB (.b 2 false<|.m 3 (V.tup [])<|.v 1 (V.int 0)<|.m 4 (S) .e) (λ_ ez=>ai (sm hc)<|ai k1<|ai l0<|ai f1<|ez)
theorem fa_1(hc:(c==1)=false)(hk:∀m,run fns (m+2) 3 [.tup (.int c::r)]=M.pure (.tup [x]))(h1:FA h x x')(hw:∀m,run fns (m+1) 4 [.tup (.int c::r),.tup [x']]=M.pure e')(hf:∀m,run fns (m+7) 34 [e']=M.pure S):
  FA (h+1) (.tup (.int c::r)) S:=λn=>by
 refine(run_b (n+(h+8)) 35 _ (d:=ffold_all) rfl rfl).trans ?_
 have k1:run fns (n+(h+8)) 3 [.tup (.int c::r)]=M.pure (.tup [x]):=run_at rfl (hk (n+(h+6)))
 have w1:run fns (n+(h+8)) 4 [.tup (.int c::r),.tup [x']]=M.pure e':=run_at rfl (hw (n+(h+7)))
 have f1:run fns (n+(h+8)) 34 [e']=M.pure S:=run_at rfl (hf (n+(h+1)))
 have l0:bifV .len [.tup [x]]=some (.int 1):=rfl
 have i0:itemsV (.tup [x])=some [x]:=rfl
 have t0:bifV .tuple [.lst [x']]=some (.tup [x']):=rfl
 have z0:(0:Nat)<lim:=by exact Nat.succ_pos _
 have p0:([]:List V).length<lim:=z0
 exact oB (.b 2 false<|.m 3 (V.tup [x])<|.v 1 (V.int 1)<|.l 4 ([x])<|.m 3 (x')<|.v 4 (V.tup [x'])<|.m 0 (e')<|.m 0 (S) .e) (λ_ ez=>ai (sm hc)<|ai k1<|ai l0<|ai i0<|ai (h1 n)<|ai t0<|ai w1<|ai f1<|ez)
theorem fa_2(hc:(c==1)=false)(hk:∀m,run fns (m+2) 3 [.tup (.int c::r)]=M.pure (.tup [x,y]))(h1:FA h x x')(h2:FA h y y')(hw:∀m,run fns (m+1) 4 [.tup (.int c::r),.tup [x',y']]=M.pure e')(hf:∀m,run fns (m+7) 34 [e']=M.pure S):
  FA (h+1) (.tup (.int c::r)) S:=λn=>by
 refine(run_b (n+(h+8)) 35 _ (d:=ffold_all) rfl rfl).trans ?_
 have k1:run fns (n+(h+8)) 3 [.tup (.int c::r)]=M.pure (.tup [x,y]):=run_at rfl (hk (n+(h+6)))
 have w1:run fns (n+(h+8)) 4 [.tup (.int c::r),.tup [x',y']]=M.pure e':=run_at rfl (hw (n+(h+7)))
 have f1:run fns (n+(h+8)) 34 [e']=M.pure S:=run_at rfl (hf (n+(h+1)))
 have l0:bifV .len [.tup [x,y]]=some (.int 2):=rfl
 have i0:itemsV (.tup [x,y])=some [x,y]:=rfl
 have t0:bifV .tuple [.lst [x',y']]=some (.tup [x',y']):=rfl
 have z0:(0:Nat)<lim:=by exact Nat.succ_pos _
 have z1:(1:Nat)<lim:=by decide
 exact oB (.b 2 false<|.m 3 (V.tup [x,y])<|.v 1 (V.int 2)<|.l 4 ([x,y])<|.m 3 (x')<|.m 3 (y')<|.v 4 (V.tup [x',y'])<|.m 0 (e')<|.m 0 (S) .e) (λ_ ez=>ai (sm hc)<|ai k1<|ai l0<|ai i0<|ai (h1 n)<|ai (h2 n)<|ai t0<|ai w1<|ai f1<|ez)
theorem fa_3(hc:(c==1)=false)(hk:∀m,run fns (m+2) 3 [.tup (.int c::r)]=M.pure (.tup [x,y,z]))(h1:FA h x x')(h2:FA h y y')(h3:FA h z z')(hw:∀m,run fns (m+1) 4 [.tup (.int c::r),.tup [x',y',z']]=M.pure e')(hf:∀m,run fns (m+7) 34 [e']=M.pure S):
  FA (h+1) (.tup (.int c::r)) S:=λn=>by
 refine(run_b (n+(h+8)) 35 _ (d:=ffold_all) rfl rfl).trans ?_
 have k1:run fns (n+(h+8)) 3 [.tup (.int c::r)]=M.pure (.tup [x,y,z]):=run_at rfl (hk (n+(h+6)))
 have w1:run fns (n+(h+8)) 4 [.tup (.int c::r),.tup [x',y',z']]=M.pure e':=run_at rfl (hw (n+(h+7)))
 have f1:run fns (n+(h+8)) 34 [e']=M.pure S:=run_at rfl (hf (n+(h+1)))
 have l0:bifV .len [.tup [x,y,z]]=some (.int 3):=rfl
 have i0:itemsV (.tup [x,y,z])=some [x,y,z]:=rfl
 have t0:bifV .tuple [.lst [x',y',z']]=some (.tup [x',y',z']):=rfl
 have z0:(0:Nat)<lim:=by exact Nat.succ_pos _
 have z1:(1:Nat)<lim:=by decide
 have z2:(2:Nat)<lim:=by decide
 exact oB (.b 2 false<|.m 3 (V.tup [x,y,z])<|.v 1 (V.int 3)<|.l 4 ([x,y,z])<|.m 3 (x')<|.m 3 (y')<|.m 3 (z')<|.v 4 (V.tup [x',y',z'])<|.m 0 (e')<|.m 0 (S) .e) (λ_ ez=>ai (sm hc)<|ai k1<|ai l0<|ai i0<|ai (h1 n)<|ai (h2 n)<|ai (h3 n)<|ai t0<|ai w1<|ai f1<|ez)
end
noncomputable abbrev mn(st:Int)(v:V)(f:Int):V:=.tup [.int st,v,.int f]
section
variable{k a b c f g lo hi:Int}{v w x y z r3 r4 r5 sg:V}{s t:Str}(n:Nat)
theorem meant_con(h:(k==15)=false):run fns (n+1) 49 [.tup [.int 1,.int k,v,r3,r4,r5],x]=M.pure (mn 1 v 0):=by
 exact oC f_law_meant (.b 8 false .e) (λ_ ez=>ai (sm h)<|ez)
theorem meant_bad:run fns (n+1) 49 [.tup [.int 1,.int 15,v,r3,r4,r5],x]=M.pure (mn 0 (.int 0) 0):=by kernel_rfl
theorem meant_loc:run fns (n+1) 49 [.tup [.int 2,.int k,v,r3,r4,r5],x]=M.pure (mn 0 (.int 0) 0):=by kernel_rfl
theorem meant_call:run fns (n+1) 49 [.tup [.int 8,.int k,v,r3,r4,r5],x]=M.pure (mn 0 (.int 0) 0):=by kernel_rfl
theorem meant_d0(h1:(40==k)=false)(h2:(41==k)=false)(h3:(13==k)=false)(h4:(12==k)=false):run fns (n+1) 49 [.tup [.int 12,.int k,v,r3,r4,r5],x]=M.pure (mn 1 (.int 0) 0):=by
 exact oC f_law_meant (.b 13 true<|.b 4 false .e) (λ_ ez=>ai (by simp only[cni_i2,h1,h2,Bool.or_false,Bool.not_false]:cmpV CmpOp.NotIn (V.int k) (V.tup [V.int 40,V.int 41])=some true)<|ai (by simp only[cin_i2,h3,h4,Bool.or_false]:cmpV CmpOp.In (V.int k) (V.tup [V.int 13,V.int 12])=some false)<|ez)
theorem meant_dn(h:k=13\/k=12):run fns (n+1) 49 [.tup [.int 12,.int k,v,r3,r4,r5],x]=M.pure (mn 1 .none 0):=by rcases h with rfl|rfl<;>kernel_rfl
theorem meant_do(h:k=40\/k=41):run fns (n+1) 49 [.tup [.int 12,.int k,v,r3,r4,r5],x]=M.pure (mn 0 (.int 0) 0):=by rcases h with rfl|rfl<;>kernel_rfl
theorem meant_un_U(hc:c=0\/c=2):run fns (n+1) 49 [.tup [.int 13,.int k,.str s,r3,r4,r5],.lst [.tup [.int c,v,w]]]=M.pure (mn 0 (.int 0) 0):=by rcases hc with rfl|rfl<;>kernel_rfl
theorem meant_num_U(hc:c=0\/c=2):run fns (n+1) 49 [.tup [.int 19,.int k,.int 1,r3,r4,r5],.lst [.tup [.int c,v,w]]]=M.pure (mn 0 (.int 0) 0):=by rcases hc with rfl|rfl<;>kernel_rfl
theorem meant_box(hc:c=0\/c=1\/c=2):run fns (n+1) 49 [.tup [.int 19,.int k,.int 4,r3,r4,r5],.lst [.tup [.int c,v,w]]]=M.pure (mn 0 (.int 0) 0):=by rcases hc with rfl|rfl|rfl<;>kernel_rfl
theorem meant_ref_U(hb:b=2\/b=3\/b=8):run fns (n+1) 49 [.tup [.int 19,.int k,.int b,r3,r4,r5],.lst [.tup [.int 0,v,w]]]=M.pure (mn 0 (.int 0) 0):=by rcases hb with rfl|rfl|rfl<;>kernel_rfl
theorem meant_ref_s(hb:b=2\/b=3\/b=8)(hc:c=1\/c=2):run fns (n+1) 49 [.tup [.int 19,.int k,.int b,r3,r4,r5],.lst [.tup [.int c,.str s,w]]]=M.pure (mn 0 (.int 0) 0):=by
 rcases hb with rfl|rfl|rfl<;>rcases hc with rfl|rfl<;>kernel_rfl
theorem meant_ref_so(hb:b=2\/b=3\/b=8)(hc:c=1\/c=2)(hk:k=13\/k=12):run fns (n+1) 49 [.tup [.int 19,.int k,.int b,r3,r4,r5],.lst [.tup [.int c,.none,w]]]=M.pure (mn 1 .none 0):=by
 rcases hb with rfl|rfl|rfl<;>rcases hc with rfl|rfl<;>rcases hk with rfl|rfl<;>kernel_rfl
theorem meant_ref_C(hb:b=2\/b=8)(hc:c=1\/c=2):run fns (n+1) 49 [.tup [.int 19,.int 41,.int b,r3,r4,r5],.lst [.tup [.int c,.none,w]]]=M.pure (mn 2 .none 0):=by
 rcases hb with rfl|rfl<;>rcases hc with rfl|rfl<;>kernel_rfl
theorem meant_cast_C(hc:c=1\/c=2):run fns (n+1) 49 [.tup [.int 19,.int 41,.int 3,r3,r4,r5],.lst [.tup [.int c,.none,w]]]=M.pure (mn 0 .none 0):=by
 rcases hc with rfl|rfl<;>kernel_rfl
theorem meant_not:run fns (n+1) 49 [.tup [.int 13,.int k,.str (Str.ofString "!"),r3,r4,r5],.lst [mn 1 (.int a) f]]=M.pure (mn 1 (.int (1-a)) 0):=by kernel_rfl
theorem meant_log_U1(h:b=15\/b=16)(hc:c=0\/c=2)(hd:g=0\/g=1\/g=2):run fns (n+1) 49 [.tup [.int b,.int k,.str s,r3,r4,r5],.lst [.tup [.int c,v,w],.tup [.int g,x,y]]]=M.pure (mn 0 (.int 0) 0):=by
 rcases h with rfl|rfl<;>rcases hc with rfl|rfl<;>rcases hd with rfl|rfl|rfl<;>kernel_rfl
theorem meant_log_U2(h:b=15\/b=16)(hc:c=0\/c=2):run fns (n+1) 49 [.tup [.int b,.int k,.str s,r3,r4,r5],.lst [.tup [.int 1,v,w],.tup [.int c,x,y]]]=M.pure (mn 0 (.int 0) 0):=by
 rcases h with rfl|rfl<;>rcases hc with rfl|rfl<;>kernel_rfl
theorem meant_and:run fns (n+1) 49 [.tup [.int 15,.int k,.str s,r3,r4,r5],.lst [mn 1 (.int a) f,mn 1 (.int b) g]]=M.pure (mn 1 (.int (if b<a then b else a)) 0):=by kernel_rfl
theorem meant_or:run fns (n+1) 49 [.tup [.int 16,.int k,.str s,r3,r4,r5],.lst [mn 1 (.int a) f,mn 1 (.int b) g]]=M.pure (mn 1 (.int (if a<b then b else a)) 0):=by kernel_rfl
theorem meant_cond1:run fns (n+1) 49 [.tup [.int 17,.int k,.str s,r3,r4,r5],.lst [mn 1 (.int 1) f,mn 1 v g,mn 1 w c]]=M.pure (mn 1 v 0):=by kernel_rfl
theorem meant_cond0:run fns (n+1) 49 [.tup [.int 17,.int k,.str s,r3,r4,r5],.lst [mn 1 (.int 0) f,mn 1 v g,mn 1 w c]]=M.pure (mn 1 w 0):=by kernel_rfl
end
section
variable{k a b c d f g lo hi wd:Int}{v w x y z r3 r4 r5 sg:V}{s t:Str}(n:Nat)
theorem ceq_t2i:cmpV .Eq (.tup [.int c,.int b]) (.tup [.int 1,.int 0])=some (c==1&&(b==0&&true)):=rfl
theorem ceq_t2n:cmpV .Eq (.tup [.int c,.none]) (.tup [.int 1,.int 0])=some (c==1&&false):=rfl
theorem ceq_t2s:cmpV .Eq (.tup [.int c,.str s]) (.tup [.int 1,.int 0])=some (c==1&&false):=rfl
theorem meant_cond_U1(hc:c=0\/c=2)(hd:g=0\/g=1\/g=2)(he:d=0\/d=1\/d=2):run fns (n+1) 49 [.tup [.int 17,.int k,.str s,r3,r4,r5],.lst [.tup [.int c,v,w],.tup [.int g,x,y],.tup [.int d,z,sg]]]=M.pure (mn 0 (.int 0) 0):=by
 rcases hc with rfl|rfl<;>rcases hd with rfl|rfl|rfl<;>rcases he with rfl|rfl|rfl<;>kernel_rfl
theorem meant_cond_U2(hc:c=0\/c=2)(he:d=0\/d=1\/d=2):run fns (n+1) 49 [.tup [.int 17,.int k,.str s,r3,r4,r5],.lst [.tup [.int 1,v,w],.tup [.int c,x,y],.tup [.int d,z,sg]]]=M.pure (mn 0 (.int 0) 0):=by
 rcases hc with rfl|rfl<;>rcases he with rfl|rfl|rfl<;>kernel_rfl
theorem meant_cond_U3(hc:c=0\/c=2):run fns (n+1) 49 [.tup [.int 17,.int k,.str s,r3,r4,r5],.lst [.tup [.int 1,v,w],.tup [.int 1,x,y],.tup [.int c,z,sg]]]=M.pure (mn 0 (.int 0) 0):=by
 rcases hc with rfl|rfl<;>kernel_rfl
theorem meant_inv(h:Num4 k lo hi wd):run fns (n+2) 49 [.tup [.int 13,.int k,.str (Str.ofString "~"),r3,r4,r5],.lst [mn 1 (.int a) f]]=M.pure (mn 1 (.int (lo+hi-a)) 0):=by
 rcases h.all with⟨rfl,rfl,rfl,_⟩|⟨rfl,rfl,rfl,_⟩|⟨rfl,rfl,rfl,_⟩|⟨rfl,rfl,rfl,_⟩<;>kernel_rfl
theorem meant_num(h:∀m,run fns (m+1) 37 [.int k]=M.pure (.tup [.int lo,.int hi]))(hk:(k==40)=false):run fns (n+2) 49 [.tup [.int 19,.int k,.int 1,r3,r4,r5],.lst [mn 1 (.int a) f]]=
  M.pure (if(decide (lo<=a)&&decide (a<=hi))=true then mn 1 (.int a) 0 else mn 0 (.int a) 221):=by
 refine(run_b (n+1) 49 _ (d:=f_law_meant) rfl rfl).trans ?_
 have i0:itemsV (.lst [mn 1 (.int a) f])=some [mn 1 (.int a) f]:=rfl
 have m0:mkLst [.int a]=some (.lst [.int a]):=rfl
 have m1:mkLst [.bool true]=some (.lst [.bool true]):=rfl
 have n1:cmpV .In (.bool false) (.lst [.bool true])=some false:=rfl
 have c3:cmpV .In (.int 1) (.tup [.int 8,.int 2,.int 3])=some false:=rfl
 have cs:cmpV .Eq (.int 1) (.str (Str.ofString "!"))=some false:=rfl
 have cs2:cmpV .Eq (.int 1) (.str (Str.ofString "~"))=some false:=rfl
 cases e1:decide (lo<=a)<;>cases e2:decide (a<=hi)
 ·exact(show _=M.pure (V.tup [V.int 0,V.int a,V.int 221])from oB (.b 71 false<|.m 3 (V.tup [V.int lo,V.int hi])<|.b 13 false .e) (λ_ ez=>ai (sm hk)<|ai (h (n))<|ai (sm e1)<|ez)).trans (congrArg M.pure (by simp only[Bool.and_false,Bool.false_eq_true,reduceIte]))
 ·exact(show _=M.pure (V.tup [V.int 0,V.int a,V.int 221])from oB (.b 71 false<|.m 3 (V.tup [V.int lo,V.int hi])<|.b 13 false .e) (λ_ ez=>ai (sm hk)<|ai (h (n))<|ai (sm e1)<|ez)).trans (congrArg M.pure (by simp only[Bool.and_true,Bool.false_eq_true,reduceIte]))
 ·exact(show _=M.pure (V.tup [V.int 0,V.int a,V.int 221])from oB (.b 71 false<|.m 3 (V.tup [V.int lo,V.int hi])<|.b 13 true<|.b 4 false .e) (λ_ ez=>ai (sm hk)<|ai (h (n))<|ai (sm e1)<|ai (sm e2)<|ez)).trans (congrArg M.pure (by simp only[Bool.and_false,Bool.false_eq_true,reduceIte]))
 ·exact(show _=M.pure (V.tup [V.int 1,V.int a,V.int 0])from oB (.b 71 false<|.m 3 (V.tup [V.int lo,V.int hi])<|.b 13 true<|.b 4 true .e) (λ_ ez=>ai (sm hk)<|ai (h (n))<|ai (sm e1)<|ai (sm e2)<|ez)).trans (congrArg M.pure (by simp only[Bool.and_true,eq_self,reduceIte]))
theorem meant_neg(h:Num4 k lo hi wd):run fns (n+2) 49 [.tup [.int 13,.int k,.str (Str.ofString "-"),r3,r4,r5],.lst [mn 1 (.int a) f]]=
  M.pure (if(decide (lo<=-a)&&decide (-a<=hi))=true then mn 1 (.int (-a)) 0 else mn 0 (.int (-a)) 220):=by
 refine(run_b (n+1) 49 _ (d:=f_law_meant) rfl rfl).trans ?_
 have hk:(k==40)=false:=by rcases h.all with⟨rfl,_⟩|⟨rfl,_⟩|⟨rfl,_⟩|⟨rfl,_⟩<;>rfl
 have i0:itemsV (.lst [mn 1 (.int a) f])=some [mn 1 (.int a) f]:=rfl
 have m0:mkLst [.int a]=some (.lst [.int a]):=rfl
 have m1:mkLst [.bool true]=some (.lst [.bool true]):=rfl
 have n1:cmpV .In (.bool false) (.lst [.bool true])=some false:=rfl
 cases e1:decide (lo<=-a)<;>cases e2:decide (-a<=hi)
 ·exact(show _=M.pure (V.tup [V.int 0,V.int (-a),V.int 220])from oB (.b 66 false<|.m 3 (V.tup [V.int lo,V.int hi])<|.b 12 false .e) (λ_ ez=>ai (by simp only[ceq_i,hk]:cmpV CmpOp.Eq (V.int k) (V.int 40)=some false)<|ai (h.span (n))<|ai (sm e1)<|ez)).trans (congrArg M.pure (by simp only[Bool.and_false,Bool.false_eq_true,reduceIte]))
 ·exact(show _=M.pure (V.tup [V.int 0,V.int (-a),V.int 220])from oB (.b 66 false<|.m 3 (V.tup [V.int lo,V.int hi])<|.b 12 false .e) (λ_ ez=>ai (by simp only[ceq_i,hk]:cmpV CmpOp.Eq (V.int k) (V.int 40)=some false)<|ai (h.span (n))<|ai (sm e1)<|ez)).trans (congrArg M.pure (by simp only[Bool.and_true,Bool.false_eq_true,reduceIte]))
 ·exact(show _=M.pure (V.tup [V.int 0,V.int (-a),V.int 220])from oB (.b 66 false<|.m 3 (V.tup [V.int lo,V.int hi])<|.b 12 true<|.b 4 false .e) (λ_ ez=>ai (by simp only[ceq_i,hk]:cmpV CmpOp.Eq (V.int k) (V.int 40)=some false)<|ai (h.span (n))<|ai (sm e1)<|ai (sm e2)<|ez)).trans (congrArg M.pure (by simp only[Bool.and_false,Bool.false_eq_true,reduceIte]))
 ·exact(show _=M.pure (V.tup [V.int 1,V.int (-a),V.int 0])from oB (.b 66 false<|.m 3 (V.tup [V.int lo,V.int hi])<|.b 12 true<|.b 4 true .e) (λ_ ez=>ai (by simp only[ceq_i,hk]:cmpV CmpOp.Eq (V.int k) (V.int 40)=some false)<|ai (h.span (n))<|ai (sm e1)<|ai (sm e2)<|ez)).trans (congrArg M.pure (by simp only[Bool.and_true,eq_self,reduceIte]))
theorem meant_E:run fns (n+2) 49 [.tup [.int 19,.int 40,.int 1,r3,r4,r5],.lst [mn 1 (.int a) f]]=
  M.pure (if(decide (0<=a)&&decide (a<=127))=true then mn 1 (.int a) 0 else mn 0 (.int a) 0):=by
 refine(run_b (n+1) 49 _ (d:=f_law_meant) rfl rfl).trans ?_
 have i0:itemsV (.lst [mn 1 (.int a) f])=some [mn 1 (.int a) f]:=rfl
 have m0:mkLst [.int a]=some (.lst [.int a]):=rfl
 have m1:mkLst [.bool true]=some (.lst [.bool true]):=rfl
 have n1:cmpV .In (.bool false) (.lst [.bool true])=some false:=rfl
 have c3:cmpV .In (.int 1) (.tup [.int 8,.int 2,.int 3])=some false:=rfl
 have cs:cmpV .Eq (.int 1) (.str (Str.ofString "!"))=some false:=rfl
 cases e1:decide (0<=a)<;>cases e2:decide (a<=127)
 ·exact(show _=M.pure (V.tup [V.int 0,V.int a,V.int 0])from oB (.b 76 false .e) (λ_ ez=>ai (sm e1)<|ez)).trans (congrArg M.pure (by simp only[Bool.and_false,Bool.false_eq_true,reduceIte]))
 ·exact(show _=M.pure (V.tup [V.int 0,V.int a,V.int 0])from oB (.b 76 false .e) (λ_ ez=>ai (sm e1)<|ez)).trans (congrArg M.pure (by simp only[Bool.and_true,Bool.false_eq_true,reduceIte]))
 ·exact(show _=M.pure (V.tup [V.int 0,V.int a,V.int 0])from oB (.b 76 true<|.b 4 false .e) (λ_ ez=>ai (sm e1)<|ai (sm e2)<|ez)).trans (congrArg M.pure (by simp only[Bool.and_false,Bool.false_eq_true,reduceIte]))
 ·exact(show _=M.pure (V.tup [V.int 1,V.int a,V.int 0])from oB (.b 76 true<|.b 4 true .e) (λ_ ez=>ai (sm e1)<|ai (sm e2)<|ez)).trans (congrArg M.pure (by simp only[Bool.and_true,eq_self,reduceIte]))
end
section
variable{k a b c d f g q lo hi wd:Int}{u v w x y z r3 r4 r5 sg:V}{s t:Str}(n:Nat)
theorem ceq_num:cmpV .Eq (.int q) (.int 0)=some (q==0):=rfl
theorem meant_bin(h1:(Str.ofString "/"==s)=false)(h2:(Str.ofString "%"==s)=false)(ht:∀m,run fns (m+2) 48 [.str s,.int k,x,y]=M.pure (.tup [u,.int q])):
  run fns (n+3) 49 [.tup [.int 14,.int k,.str s,r3,r4,r5],.lst [mn 1 x f,mn 1 y g]]=M.pure (.tup [.int (if(q==0)=true then 1 else 0),u,.int q]):=by
 refine(run_b (n+2) 49 _ (d:=f_law_meant) rfl rfl).trans ?_
 have i0:itemsV (.lst [mn 1 x f,mn 1 y g])=some [mn 1 x f,mn 1 y g]:=rfl
 have m0:mkLst [x,y]=some (.lst [x,y]):=rfl
 have m1:mkLst [.bool true,.bool true]=some (.lst [.bool true,.bool true]):=rfl
 have n1:cmpV .In (.bool false) (.lst [.bool true,.bool true])=some false:=rfl
 cases e:(q==0)
 ·exact(show _=M.pure (V.tup [V.int 0,u,V.int q])from oB (.b 24 false<|.m 47 (V.tup [u,V.int q])<|.b 2 false .e) (λ_ ez=>ai (by simp only[cin_s2,h1,h2,Bool.or_false]:cmpV CmpOp.In (V.str s) (V.tup [V.str (Str.ofString "/"),V.str (Str.ofString "%")])=some false)<|ai (ht (n))<|ai (sm e)<|ez)).trans (congrArg M.pure rfl)
 ·exact(show _=M.pure (V.tup [V.int 1,u,V.int q])from oB (.b 24 false<|.m 47 (V.tup [u,V.int q])<|.b 2 true .e) (λ_ ez=>ai (by simp only[cin_s2,h1,h2,Bool.or_false]:cmpV CmpOp.In (V.str s) (V.tup [V.str (Str.ofString "/"),V.str (Str.ofString "%")])=some false)<|ai (ht (n))<|ai (sm e)<|ez)).trans (congrArg M.pure rfl)
theorem meant_bin_q(hs:s=Str.ofString "/"\/s=Str.ofString "%")(hb:(b==0)=false)(ht:∀m,run fns (m+2) 48 [.str s,.int k,x,.int b]=M.pure (.tup [u,.int q])):
  run fns (n+3) 49 [.tup [.int 14,.int k,.str s,r3,r4,r5],.lst [mn 1 x f,mn 1 (.int b) g]]=M.pure (.tup [.int (if(q==0)=true then 1 else 0),u,.int q]):=by
 refine(run_b (n+2) 49 _ (d:=f_law_meant) rfl rfl).trans ?_
 have i0:itemsV (.lst [mn 1 x f,mn 1 (.int b) g])=some [mn 1 x f,mn 1 (.int b) g]:=rfl
 have m0:mkLst [x,.int b]=some (.lst [x,.int b]):=rfl
 have m1:mkLst [.bool true,.bool true]=some (.lst [.bool true,.bool true]):=rfl
 have n1:cmpV .In (.bool false) (.lst [.bool true,.bool true])=some false:=rfl
 rcases hs with rfl|rfl<;>cases e:(q==0)
 ·exact(show _=M.pure (V.tup [V.int 0,u,V.int q])from oB (.b 31 false<|.m 45 (V.tup [u,V.int q])<|.b 2 false .e) (λ_ ez=>ai (by simp only[ceq_t2i,beq_self_eq_true,hb,Bool.and_true,Bool.and_false]:cmpV CmpOp.Eq (V.tup [V.int 1,V.int b]) (V.tup [V.int 1,V.int 0])=some false)<|ai (ht (n))<|ai (sm e)<|ez)).trans (congrArg M.pure rfl)
 ·exact(show _=M.pure (V.tup [V.int 1,u,V.int q])from oB (.b 31 false<|.m 45 (V.tup [u,V.int q])<|.b 2 true .e) (λ_ ez=>ai (by simp only[ceq_t2i,beq_self_eq_true,hb,Bool.and_true,Bool.and_false]:cmpV CmpOp.Eq (V.tup [V.int 1,V.int b]) (V.tup [V.int 1,V.int 0])=some false)<|ai (ht (n))<|ai (sm e)<|ez)).trans (congrArg M.pure rfl)
 ·exact(show _=M.pure (V.tup [V.int 0,u,V.int q])from oB (.b 31 false<|.m 45 (V.tup [u,V.int q])<|.b 2 false .e) (λ_ ez=>ai (by simp only[ceq_t2i,beq_self_eq_true,hb,Bool.and_true,Bool.and_false]:cmpV CmpOp.Eq (V.tup [V.int 1,V.int b]) (V.tup [V.int 1,V.int 0])=some false)<|ai (ht (n))<|ai (sm e)<|ez)).trans (congrArg M.pure rfl)
 ·exact(show _=M.pure (V.tup [V.int 1,u,V.int q])from oB (.b 31 false<|.m 45 (V.tup [u,V.int q])<|.b 2 true .e) (λ_ ez=>ai (by simp only[ceq_t2i,beq_self_eq_true,hb,Bool.and_true,Bool.and_false]:cmpV CmpOp.Eq (V.tup [V.int 1,V.int b]) (V.tup [V.int 1,V.int 0])=some false)<|ai (ht (n))<|ai (sm e)<|ez)).trans (congrArg M.pure rfl)
theorem meant_bin_z(hs:s=Str.ofString "/"\/s=Str.ofString "%"):run fns (n+3) 49 [.tup [.int 14,.int k,.str s,r3,r4,r5],.lst [x,mn 1 (.int 0) g]]=M.pure (mn 0 (.int 0) 20):=by
 rcases hs with rfl|rfl<;>kernel_rfl
theorem meant_bin_U1(h1:(Str.ofString "/"==s)=false)(h2:(Str.ofString "%"==s)=false)(hc:c=0\/c=2)(hd:d=0\/d=1\/d=2):run fns (n+3) 49 [.tup [.int 14,.int k,.str s,r3,r4,r5],.lst [.tup [.int c,v,w],.tup [.int d,x,y]]]=M.pure (mn 0 (.int 0) 0):=by
 refine(run_b (n+2) 49 _ (d:=f_law_meant) rfl rfl).trans ?_
 have i0:∀{p q:V},itemsV (.lst [p,q])=some [p,q]:=rfl
 have m1:∀{p q:V},mkLst [p,q]=some (.lst [p,q]):=rfl
 have n1:cmpV .In (.bool false) (.lst [.bool false,.bool true])=some true:=rfl
 have n2:cmpV .In (.bool false) (.lst [.bool false,.bool false])=some true:=rfl
 rcases hc with rfl|rfl<;>rcases hd with rfl|rfl|rfl
 ·exact oB (.b 24 false .e) (λ_ ez=>ai (by simp only[cin_s2,h1,h2,Bool.or_false]:cmpV CmpOp.In (V.str s) (V.tup [V.str (Str.ofString "/"),V.str (Str.ofString "%")])=some false)<|ez)
 ·exact oB (.b 24 false .e) (λ_ ez=>ai (by simp only[cin_s2,h1,h2,Bool.or_false]:cmpV CmpOp.In (V.str s) (V.tup [V.str (Str.ofString "/"),V.str (Str.ofString "%")])=some false)<|ez)
 ·exact oB (.b 24 false .e) (λ_ ez=>ai (by simp only[cin_s2,h1,h2,Bool.or_false]:cmpV CmpOp.In (V.str s) (V.tup [V.str (Str.ofString "/"),V.str (Str.ofString "%")])=some false)<|ez)
 ·exact oB (.b 24 false .e) (λ_ ez=>ai (by simp only[cin_s2,h1,h2,Bool.or_false]:cmpV CmpOp.In (V.str s) (V.tup [V.str (Str.ofString "/"),V.str (Str.ofString "%")])=some false)<|ez)
 ·exact oB (.b 24 false .e) (λ_ ez=>ai (by simp only[cin_s2,h1,h2,Bool.or_false]:cmpV CmpOp.In (V.str s) (V.tup [V.str (Str.ofString "/"),V.str (Str.ofString "%")])=some false)<|ez)
 ·exact oB (.b 24 false .e) (λ_ ez=>ai (by simp only[cin_s2,h1,h2,Bool.or_false]:cmpV CmpOp.In (V.str s) (V.tup [V.str (Str.ofString "/"),V.str (Str.ofString "%")])=some false)<|ez)
theorem meant_bin_U2(h1:(Str.ofString "/"==s)=false)(h2:(Str.ofString "%"==s)=false)(hc:c=0\/c=2):run fns (n+3) 49 [.tup [.int 14,.int k,.str s,r3,r4,r5],.lst [.tup [.int 1,v,w],.tup [.int c,x,y]]]=M.pure (mn 0 (.int 0) 0):=by
 refine(run_b (n+2) 49 _ (d:=f_law_meant) rfl rfl).trans ?_
 have i0:∀{p q:V},itemsV (.lst [p,q])=some [p,q]:=rfl
 have m1:∀{p q:V},mkLst [p,q]=some (.lst [p,q]):=rfl
 have n1:cmpV .In (.bool false) (.lst [.bool true,.bool false])=some true:=rfl
 rcases hc with rfl|rfl
 ·exact oB (.b 24 false .e) (λ_ ez=>ai (by simp only[cin_s2,h1,h2,Bool.or_false]:cmpV CmpOp.In (V.str s) (V.tup [V.str (Str.ofString "/"),V.str (Str.ofString "%")])=some false)<|ez)
 ·exact oB (.b 24 false .e) (λ_ ez=>ai (by simp only[cin_s2,h1,h2,Bool.or_false]:cmpV CmpOp.In (V.str s) (V.tup [V.str (Str.ofString "/"),V.str (Str.ofString "%")])=some false)<|ez)
theorem meant_q_U1(hs:s=Str.ofString "/"\/s=Str.ofString "%")(hc:c=0\/c=2)(hb:(b==0)=false):run fns (n+3) 49 [.tup [.int 14,.int k,.str s,r3,r4,r5],.lst [.tup [.int c,v,w],mn 1 (.int b) g]]=M.pure (mn 0 (.int 0) 0):=by
 refine(run_b (n+2) 49 _ (d:=f_law_meant) rfl rfl).trans ?_
 have i0:∀{p q:V},itemsV (.lst [p,q])=some [p,q]:=rfl
 have m1:∀{p q:V},mkLst [p,q]=some (.lst [p,q]):=rfl
 have n1:cmpV .In (.bool false) (.lst [.bool false,.bool true])=some true:=rfl
 rcases hs with rfl|rfl<;>rcases hc with rfl|rfl
 ·exact oB (.b 31 false .e) (λ_ ez=>ai (by simp only[ceq_t2i,beq_self_eq_true,hb,Bool.and_true,Bool.and_false]:cmpV CmpOp.Eq (V.tup [V.int 1,V.int b]) (V.tup [V.int 1,V.int 0])=some false)<|ez)
 ·exact oB (.b 31 false .e) (λ_ ez=>ai (by simp only[ceq_t2i,beq_self_eq_true,hb,Bool.and_true,Bool.and_false]:cmpV CmpOp.Eq (V.tup [V.int 1,V.int b]) (V.tup [V.int 1,V.int 0])=some false)<|ez)
 ·exact oB (.b 31 false .e) (λ_ ez=>ai (by simp only[ceq_t2i,beq_self_eq_true,hb,Bool.and_true,Bool.and_false]:cmpV CmpOp.Eq (V.tup [V.int 1,V.int b]) (V.tup [V.int 1,V.int 0])=some false)<|ez)
 ·exact oB (.b 31 false .e) (λ_ ez=>ai (by simp only[ceq_t2i,beq_self_eq_true,hb,Bool.and_true,Bool.and_false]:cmpV CmpOp.Eq (V.tup [V.int 1,V.int b]) (V.tup [V.int 1,V.int 0])=some false)<|ez)
theorem meant_q_U2(hs:s=Str.ofString "/"\/s=Str.ofString "%")(hc:c=0\/c=1\/c=2):run fns (n+3) 49 [.tup [.int 14,.int k,.str s,r3,r4,r5],.lst [.tup [.int c,v,w],mn 0 (.int b) g]]=M.pure (mn 0 (.int 0) 0):=by
 rcases hs with rfl|rfl<;>rcases hc with rfl|rfl|rfl<;>kernel_rfl
theorem turned_q(hs:s=Str.ofString "/"\/s=Str.ofString "%")(h:∀m,run fns (m+1) 45 [x]=M.pure (.bool false)):run fns (n+2) 53 [.tup [y,z,.str s,r3,r4,r5],x,u]=M.pure (.bool true):=by
 refine(run_b (n+1) 53 _ (d:=f_law_turned) rfl rfl).trans ?_
 rcases hs with rfl|rfl
 ·exact oB (.m 7 (V.bool false) .e) (λ_ ez=>ai (h (n))<|ez)
 ·exact oB (.m 7 (V.bool false) .e) (λ_ ez=>ai (h (n))<|ez)
theorem turned_n(hsg:cmpV .In sg (.tup [.str (Str.ofString "/"),.str (Str.ofString "%")])=some false)(h:∀m,run fns (m+1) 37 [.int k]=M.pure (.tup [.int lo,.int hi]))(hM:hi-lo+1≠0)(h1:lo<=b)(h2:b<=hi)(hm:(b-a).fmod (hi-lo+1)=0):
  run fns (n+2) 53 [.tup [y,.int k,sg,r3,r4,r5],.tup [.int 1,.int k,.int b],.int a]=M.pure (.bool true):=by
 refine(run_b (n+1) 53 _ (d:=f_law_turned) rfl rfl).trans ?_
 have e2:cmpV .Eq (.tup [.int 1,.int k]) (.tup [.int 1,.int k])=some ((1:Int)==1&&(k==k&&true)):=rfl
 exact oB (.b 3 false<|.m 4 (V.tup [V.int lo,V.int hi])<|.b 6 true<|.b 5 true<|.b 5 true<|.v 10 (V.int (Int.fmod (b-a) (hi-lo+1)))<|.b 0 true .e) (λ_ ez=>ai hsg<|ai (h (n))<|ai (by simp only[e2,beq_self_eq_true,Bool.and_true]:cmpV CmpOp.Eq (V.tup [V.int 1,V.int k]) (V.tup [V.int 1,V.int k])=some true)<|ai (sd h1)<|ai (sd h2)<|ai (bmod hM (a:=b-a))<|ai (sd hm)<|ez)
end
noncomputable def Txt(x:V)(t:Option Str):Prop:=∀m,run fns (m+2) 32 [x]=M.pure (match t with|some s=>.str s|none=>.none)
noncomputable abbrev con(k:Int)(v:V):V:=.tup [.int 1,.int k,v]
noncomputable def catS:List V×Option Str->V×Option Str->List V×Option Str
 |(acc,some l),(_,some t)=>(acc.dropLast++[con 13 (.str (l++t))],some (l++t))
 |(acc,none),(_,some t)=>(acc++[con 13 (.str t)],some t)
 |(acc,_),(x,none)=>(acc++[x],none)
noncomputable def oV:Option Str->V
 |some s=>.str s
 |none=>.none
noncomputable def oL:Option Str->Nat
 |some s=>s.length
 |none=>0
theorem setL_last(acc:List V)(y v:V)(h:acc.length<1000):setL (acc++[y]) (-1) v=some (acc++[v]):=by
 unfold setL
 rw[if_neg (nofun)]
 have h1:(-1:Int)+((acc++[y]).length:Int)=acc.length:=by rw[List.length_append];simp;lia
 rw[h1,if_pos (Int.natCast_nonneg _),Int.toNat_natCast]
 simp
theorem badd_s{a b:Str}(h:a.length+b.length<=lim):binV .Add (.str a) (.str b)=some (.str (a++b)):=if_pos h
section
variable{e:V}{n:Nat}
noncomputable def catB:Ss:=ffold_concat.body.tl.tl.hd.bod
theorem cat_step{x:V}{t last:Option Str}{acc:List V}{s3 s4:Slot}(ht:Txt x t)(hl:oL last+oL t<=lim)(ha:acc.length<1000)(hne:last.isSome=true->∃a' y,acc=a'++[y]):
  ∃s3' s4',evSs (run fns (n+2)) (List.set [.val e,.own acc,.val (oV last),s3,s4] 3 (.val x)) catB=M.pure (.next,[.val e,.own (catS (acc,last) (x,t)).1,.val (oV (catS (acc,last) (x,t)).2),s3',s4']):=by
 have hz:decide (acc.length<lim)=true:=decide_eq_true (Nat.le_trans ha (Nat.le_of_ble_eq_true rfl))
 cases t with
 |none=>exact⟨.val x,.val .none,by
   cases last
   ·exact oS (.m 1 .none<|.b 12 true .e) (λ_ ez=>ai (ht n)<|ai hz ez)
   ·exact oS (.m 1 .none<|.b 12 true .e) (λ_ ez=>ai (ht n)<|ai hz ez)⟩
 |some t=>
  refine⟨.val x,.val (.str t),?_⟩
  cases last with
  |none=>exact oS (.m 1 (.str t)<|.b 16 true .e) (λ_ ez=>ai (ht n)<|ai hz ez)
  |some l=>
   obtain⟨a',y,rfl⟩:=hne rfl
   have h2:a'.length<1000:=Nat.lt_of_le_of_lt (Nat.le_trans (Nat.le_add_right _ _) (Nat.le_of_eq List.length_append.symm)) ha
   show _=M.pure (Fl.next,[_,Slot.own ((a'++[y]).dropLast++[V.tup [.int 1,.int 13,.str (l++t)]]),_,_,_])
   rw[List.dropLast_concat]
   exact oS (.m 1 (.str t)<|.v 10 (.str (l++t))<|.l 4 (a'++[.tup [.int 1,.int 13,.str (l++t)]]) .e) (λ_ ez=>ai (ht n)<|ai (badd_s hl)<|ai (setL_last a' y (.tup [.int 1,.int 13,.str (l++t)]) h2) ez)
theorem app_len(a b:Str):(a++b).length=a.length+b.length:=by
 show(a.cps++b.cps).size=_
 rw[Array.size_append];rfl
theorem catS_ok{acc:List V}{last:Option Str}{x:V}{t:Option Str}:((catS (acc,last) (x,t)).2.isSome=true->∃a' y,(catS (acc,last) (x,t)).1=a'++[y])/\oL (catS (acc,last) (x,t)).2<=oL last+oL t/\(catS (acc,last) (x,t)).1.length<=acc.length+1:=by
 cases last<;>cases t<;>simp[catS,oL,app_len]
theorem cat_loop:∀(ps:List (V×Option Str))(acc:List V)(last:Option Str)(s3 s4:Slot),(∀p∈ps,Txt p.1 p.2)->oL last+(ps.map λp=>oL p.2).sum<=lim->acc.length+ps.length<1000->(last.isSome=true->∃a' y,acc=a'++[y])->
  ∃s3' s4',loopL (λv ρ=>evSs (run fns (n+2)) (List.set ρ 3 (.val v)) catB) (ps.map (·.1)) [.val e,.own acc,.val (oV last),s3,s4]=
   M.pure (.next,[.val e,.own (ps.foldl catS (acc,last)).1,.val (oV (ps.foldl catS (acc,last)).2),s3',s4'])
 |[],acc,last,s3,s4,_,_,_,_=>⟨s3,s4,rfl⟩
 |(x,t)::ps,acc,last,s3,s4,ht,hl,ha,hne=>by
  simp only[List.map_cons,List.sum_cons,List.length_cons]at hl ha
  have hl:oL last+(oL t+(ps.map λp=>oL p.2).sum)<=lim:=hl
  obtain⟨s3',s4',e1⟩:=cat_step (e:=e) (n:=n) (x:=x) (t:=t) (s3:=s3) (s4:=s4) (ht (x,t) (List.mem_cons_self ..)) (by lia) (show acc.length<1000 by lia) hne
  obtain⟨h1,h2,h3⟩:=catS_ok (acc:=acc) (last:=last) (x:=x) (t:=t)
  obtain⟨r3,r4,e2⟩:=cat_loop ps (catS (acc,last) (x,t)).1 (catS (acc,last) (x,t)).2 s3' s4' (λp hp=>ht p (List.mem_cons_of_mem _ hp)) (by lia) (by lia) h1
  refine⟨r3,r4,?_⟩
  rw[List.map_cons,loop_cons,e1,M.pure_bind]
  exact e2
theorem foldl_len:∀(ps:List (V×Option Str))(acc:List V)(last:Option Str),(ps.foldl catS (acc,last)).1.length<=acc.length+ps.length
 |[],acc,last=>Nat.le_refl _
 |p::ps,acc,last=>by
  have h:=(catS_ok (acc:=acc) (last:=last) (x:=p.1) (t:=p.2)).2.2
  have:=foldl_len ps (catS (acc,last) p).1 (catS (acc,last) p).2
  rw[List.foldl_cons,List.length_cons]
  have e:(catS (acc,last) p)=((catS (acc,last) p).1,(catS (acc,last) p).2):=rfl
  rw[←e]at this
  exact Nat.le_trans this (by have h':(catS (acc,last) p).1.length<=acc.length+1:=h;lia)
noncomputable def catR(k:Int)(ps:List (V×Option Str)):V:=
 let R:=ps.foldl catS ([],none)
 if R.1.length=1/\R.2.isSome=true then R.1.headD .none else .tup [.int 26,.int k,.tup R.1]
theorem cat_g{Φ:Nat->List V->M V}{a:V}{L:List V}{T:Option Str}{p q:Slot}(h:L.length<=lim):evE Φ [.val a,.val (.lst L),.val (oV T),p,q] (.boo true (.cons (.cmp .Eq (.bif .len (.cons (.loc 1) .nil)) (.int 1)) (.cons (.cmp .IsNot (.loc 2) .none) .nil)))=M.pure (.bool (((L.length:Int)==1)&&T.isSome)):=by
 refine bo2 (b1:=((L.length:Int)==1)) (b2:=T.isSome) ?_ (by cases T<;>rfl) rfl
 show((M.lift (bifV .len [.lst L])).bind λx=>_)=_
 rw[lenL h];rfl
theorem fold_cat{k:Int}{ps:List (V×Option Str)}(ht:∀p∈ps,Txt p.1 p.2)(hl:(ps.map λp=>oL p.2).sum<=lim)(hlen:ps.length<1000)(n:Nat):
  run fns (n+4) 34 [.tup [.int 26,.int k,.tup (ps.map (·.1))]]=M.pure (catR k ps):=by
 obtain⟨s3,s4,hloop⟩:=cat_loop (e:=.tup [.int 26,.int k,.tup (ps.map (·.1))]) (n:=n) ps [] none .none .none ht (Nat.le_trans (Nat.le_of_eq (Nat.zero_add _)) hl) (Nat.lt_of_le_of_lt (Nat.le_of_eq (Nat.zero_add _)) hlen) (nofun)
 have hi:itemsV (.tup (ps.map (·.1)))=some (ps.map (·.1)):=it_tup (by rw[List.length_map];exact Nat.le_trans (Nat.le_of_lt hlen) (Nat.le_of_ble_eq_true rfl))
 have hR:=foldl_len ps [] none
 refine v26 ?_
 unfold catR
 dsimp only
 generalize ps.foldl catS ([],none)=R at hloop hR
 obtain⟨L,T⟩:=R
 dsimp only at hR hloop ⊢
 have hLl:L.length<=lim:=Nat.le_trans hR (Nat.le_trans (Nat.le_of_eq (Nat.zero_add _)) (Nat.le_trans (Nat.le_of_lt hlen) (Nat.le_of_ble_eq_true rfl)))
 have g:=cat_g (Φ:=run fns (n+2)) (a:=.tup [.int 26,.int k,.tup (ps.map (·.1))]) (T:=T) (p:=s3) (q:=s4) hLl
 by_cases e:L.length=1/\T.isSome=true
 ·rw[if_pos e]
  obtain⟨e1,e2⟩:=e
  obtain⟨y,rfl⟩:=List.length_eq_one_iff.mp e1
  rw[e2]at g
  exact oC ffold_concat (.l 2 (ps.map (·.1))<|.q 0 .next [.val (.tup [.int 26,.int k,.tup (ps.map (·.1))]),.own [y],.val (oV T),s3,s4]<|.y 0 (.bool true) .e) (λ_ ez=>ai hi<|ai hloop<|ai g ez)
 ·rw[if_neg e]
  have e3:(((L.length:Int)==1)&&T.isSome)=false:=by
   cases q:T.isSome with
   |false=>exact Bool.and_false _
   |true=>rw[Bool.and_true];exact beq_false_of_ne λz=>e ⟨Int.ofNat.inj z,q⟩
  rw[e3]at g
  exact oC ffold_concat (.l 2 (ps.map (·.1))<|.q 0 .next [.val (.tup [.int 26,.int k,.tup (ps.map (·.1))]),.own L,.val (oV T),s3,s4]<|.y 0 (.bool false)<|.v 5 (.tup L) .e) (λ_ ez=>ai hi<|ai hloop<|ai g<|ai (tupL hLl) ez)
end
noncomputable def FO(h:Nat)(e:V)(l:List Int):Prop:=∀n,run fns (n+(h+8)) 50 [e]=M.pure (.lst (l.map V.int))
noncomputable def fl1(f:Int):List Int:=if f=0 then[]else[f]
inductive F2{α β:Type}(R:α->β->Prop):List α->List β->Prop
 |nil:F2 R [] []
 |cons {a:α} {b:β} {as:List α} {bs:List β}:R a b->F2 R as bs->F2 R (a::as) (b::bs)
noncomputable def S.thn(s:S):Ss:=match s with
 |.ifS _ a _=>a
 |_=>.nil
noncomputable def foB:Ss:=f_law_found.body.tl.hd.bod
noncomputable def fiB:Ss:=foB.hd.thn.tl.hd.bod
section
variable{a b e x y:V}{p q r:List V}{h:Nat}{l l2 l3:List Int}{k n1 n2 n3 n4 n5 g:Int}{s:Str}{s2 s3 s4 s5:Slot}
theorem lentc(hp:p.length<1000):bifV .len [.tup (x::p)]=some (.int ((p.length+1:Nat):Int)):=if_pos (show p.length+1<=lim from Nat.le_trans hp (Nat.le_of_ble_eq_true rfl))
theorem addL(hp:p.length+q.length<=lim):binV .Add (.lst p) (.lst q)=some (.lst (p++q)):=if_pos (Nat.le_trans (Nat.le_of_eq List.length_append) hp)
theorem FO.le{g:Nat}(w:FO h x l)(hg:h<=g):FO g x l:=by
 obtain⟨k,rfl⟩:=Nat.exists_eq_add_of_le hg
 exactλn=>run_at (by lia) (w (n+k))
theorem FO.of{h:Nat}{e:V}{l l':List Int}(x:FO h e l)(q:l=l'):FO h e l':=q▸x
theorem addM(hl:l.length+l2.length<=1000000):binV .Add (.lst (l.map V.int)) (.lst (l2.map V.int))=some (.lst ((l++l2).map V.int)):=by
 rw[List.map_append]
 exact addL (by rw[List.length_map,List.length_map];exact Nat.le_trans hl (Nat.le_of_ble_eq_true rfl))
inductive El(h:Nat):V->List Int->Prop
 |int (i:Int):El h (.int i) []
 |str (s:Str):El h (.str s) []
 |none:El h .none []
 |nil:El h (.tup []) []
 |nd {c:Int} {p:List V} {l:List Int}:FO h (.tup (.int c::p)) l->p.length<1000->El h (.tup (.int c::p)) l
 |row {p ys:List V} {ls:List (List Int)}:F2 (FO h) (.tup p::ys) ls->ys.length<1000->El h (.tup (.tup p::ys)) ls.flatten
theorem fi_loop{ys:List V}{ls:List (List Int)}(H:F2 (FO h) ys ls)(n:Nat):∀(acc:List Int)(s4:Slot),acc.length+ls.flatten.length<=1000000->∃s4',loopL (λv ρ=>evSs (run fns (n+(h+8))) (ρ.set 4 (.val v)) fiB) ys [.val e,.val (.lst (acc.map V.int)),s2,s3,s4,s5]=M.pure (.next,[.val e,.val (.lst ((acc++ls.flatten).map V.int)),s2,s3,s4',s5]):=by
 induction H with
 |nil=>exactλacc s4 _=>⟨s4,by rw[List.flatten_nil,List.append_nil];rfl⟩
 |@cons y l ys ls hy _ ih=>
  intro acc s4 hl
  rw[List.flatten_cons,List.length_append,←Nat.add_assoc]at hl
  obtain⟨s,e1⟩:=ih (acc++l) (.val y) (by rw[List.length_append];exact hl)
  refine⟨s,?_⟩
  rw[loop_cons,oS (r:=(Fl.next,[.val e,.val (.lst ((acc++l).map V.int)),s2,s3,.val y,s5])) (.m 2 (.lst (l.map V.int))<|.v 0 (.lst ((acc++l).map V.int)) .e) (λ_ ez=>ai (hy n)<|ai (addM (l:=acc) (l2:=l) (Nat.le_trans (Nat.le_add_right _ _) hl)) ez),List.flatten_cons,←List.append_assoc]
  exact e1
theorem fo_g{Φ:Nat->List V->M V}{a b:Slot}(hp:p.length<1000):evE Φ [a,b,.val (.tup (y::p)),s3,s4,s5] (.boo true (.cons (.isTup (.loc 2)) (.cons (.cmp .Gt (.bif .len (.cons (.loc 2) .nil)) (.int 0)) .nil)))=M.pure (.bool true):=by
 refine bo2 (b1:=true) (b2:=true) rfl ?_ rfl
 show((M.lift (bifV .len [.tup (y::p)])).bind λx=>_)=_
 rw[lentc hp]
 exact congrArg (λb=>M.pure (V.bool b)) (decide_eq_true (Int.ofNat_lt.mpr (Nat.succ_pos _)))
theorem fo_step(H:El h x l)(n:Nat)(acc:List Int)(hl:acc.length+l.length<=1000000):∃s3' s4',evSs (run fns (n+(h+8))) (List.set [.val e,.val (.lst (acc.map V.int)),s2,s3,s4,s5] 2 (.val x)) foB=M.pure (.next,[.val e,.val (.lst ((acc++l).map V.int)),.val x,s3',s4',s5]):=by
 cases H with
 |int i=>exact⟨s3,s4,by rw[List.append_nil];exact oS .e (λ_ ez=>ez)⟩
 |str i=>exact⟨s3,s4,by rw[List.append_nil];exact oS .e (λ_ ez=>ez)⟩
 |none=>exact⟨s3,s4,by rw[List.append_nil];exact oS .e (λ_ ez=>ez)⟩
 |nil=>exact⟨s3,s4,by rw[List.append_nil];exact oS .e (λ_ ez=>ez)⟩
 |@nd c p _ w hp=>
  obtain⟨s,q⟩:=fi_loop (e:=e) (s2:=.val (.tup (.int c::p))) (s3:=.val (.tup [.tup (.int c::p)])) (s5:=s5) (.cons w .nil) n acc s4 (by rw[List.flatten_cons,List.flatten_nil,List.append_nil];exact hl)
  rw[List.flatten_cons,List.flatten_nil,List.append_nil]at q
  exact⟨.val (.tup [.tup (.int c::p)]),s,oS (.y 0 (.bool true)<|.q 9 .next [.val e,.val (.lst ((acc++l).map V.int)),.val (.tup (.int c::p)),.val (.tup [.tup (.int c::p)]),s,s5] .e) (λ_ ez=>ai (fo_g (Φ:=run fns (n+(h+8))) (a:=.val e) (b:=.val (.lst (acc.map V.int))) (y:=.int c) (s3:=s3) (s4:=s4) (s5:=s5) hp)<|ai q ez)⟩
 |@row p ys ls w hp=>
  obtain⟨s,q⟩:=fi_loop (e:=e) (s2:=.val (.tup (.tup p::ys))) (s3:=.val (.tup (.tup p::ys))) (s5:=s5) w n acc s4 hl
  exact⟨.val (.tup (.tup p::ys)),s,oS (.y 0 (.bool true)<|.l 7 (.tup p::ys)<|.q 0 .next [.val e,.val (.lst ((acc++ls.flatten).map V.int)),.val (.tup (.tup p::ys)),.val (.tup (.tup p::ys)),s,s5] .e) (λ_ ez=>ai (fo_g (Φ:=run fns (n+(h+8))) (a:=.val e) (b:=.val (.lst (acc.map V.int))) (y:=.tup p) (s3:=s3) (s4:=s4) (s5:=s5) hp)<|ai (it_tup (xs:=.tup p::ys) (Nat.le_trans hp (Nat.le_of_ble_eq_true rfl)))<|ai q ez)⟩
theorem fo_loop{xs:List V}{ls:List (List Int)}(H:F2 (El h) xs ls)(n:Nat):∀(acc:List Int)(s2 s3 s4:Slot),acc.length+ls.flatten.length<=1000000->∃s2' s3' s4',loopL (λv ρ=>evSs (run fns (n+(h+8))) (ρ.set 2 (.val v)) foB) xs [.val e,.val (.lst (acc.map V.int)),s2,s3,s4,s5]=M.pure (.next,[.val e,.val (.lst ((acc++ls.flatten).map V.int)),s2',s3',s4',s5]):=by
 induction H with
 |nil=>exactλacc s2 s3 s4 _=>⟨s2,s3,s4,by rw[List.flatten_nil,List.append_nil];rfl⟩
 |@cons x l xs ls hx _ ih=>
  intro acc s2 s3 s4 hl
  rw[List.flatten_cons,List.length_append,←Nat.add_assoc]at hl
  obtain⟨t3,t4,e1⟩:=fo_step (e:=e) (s2:=s2) (s3:=s3) (s4:=s4) (s5:=s5) hx n acc (Nat.le_trans (Nat.le_add_right _ _) hl)
  obtain⟨u2,u3,u4,e2⟩:=ih (acc++l) (.val x) t3 t4 (by rw[List.length_append];exact hl)
  refine⟨u2,u3,u4,?_⟩
  rw[loop_cons,e1,List.flatten_cons,←List.append_assoc]
  exact e2
theorem fo_all{xs:List V}{ls:List (List Int)}(H:F2 (El h) xs ls)(hl:ls.flatten.length<1000000)(hx:xs.length<1000)(hf:∀m,run fns (m+6) 23 [.tup (a::b::xs)]=M.pure (.int g)):FO (h+1) (.tup (a::b::xs)) (ls.flatten++fl1 g):=λn=>by
 obtain⟨s2,s3,s4,q⟩:=fo_loop (e:=.tup (a::b::xs)) (s5:=.none) H n [] .none .none .none (Nat.le_trans (Nat.le_of_eq (Nat.zero_add _)) (Nat.le_of_lt hl))
 have h1:slcLV (.tup (a::b::xs)) (.int 2)=some (.tup xs):=if_pos ⟨(by decide),Nat.le_trans (Nat.succ_le_succ (Nat.succ_le_succ (Nat.le_of_lt hx))) (Nat.le_of_ble_eq_true rfl)⟩
 have h2:evE (run fns (n+(h+8))) [.val (.tup (a::b::xs)),.val (.lst (ls.flatten.map V.int)),s2,s3,s4,.val (.int g)] (.ite (.cmp .NotEq (.loc 5) (.int 0)) (.bin .Add (.loc 1) (.lst (.cons (.loc 5) .nil))) (.loc 1))=M.pure (.lst ((ls.flatten++fl1 g).map V.int)):=by
  show(if(!(g==0))=true then M.lift (binV .Add (.lst (ls.flatten.map V.int)) (.lst ([g].map V.int)))else M.pure (.lst (ls.flatten.map V.int)))=_
  unfold fl1
  by_cases e:g=0
  ·rw[if_pos e,List.append_nil,e];rfl
  ·rw[if_neg e,if_pos (by rw[show(g==0)=false from beq_false_of_ne e];rfl),addM (l2:=[g]) hl];rfl
 exact oC f_law_found (.v 2 (.tup xs)<|.l 0 xs<|.q 0 .next [.val (.tup (a::b::xs)),.val (.lst (ls.flatten.map V.int)),s2,s3,s4,.none]<|.m 1 (.int g)<|.y 0 (.lst ((ls.flatten++fl1 g).map V.int)) .e) (λ_ ez=>ai h1<|ai (it_tup (xs:=xs) (Nat.le_trans (Nat.le_of_lt hx) (Nat.le_of_ble_eq_true rfl)))<|ai q<|ai (run_at rfl (hf (n+(h+2))))<|ai h2 ez)
theorem fl_bd:∀{ls:List (List Int)},(∀l∈ls,l.length<100000)->ls.flatten.length<=ls.length*100000:=by
 intro ls
 induction ls with
 |nil=>exactλ_=>Nat.le_refl _
 |cons l ls ih=>
  intro h
  rw[List.flatten_cons,List.length_append,List.length_cons,Nat.succ_mul,Nat.add_comm]
  exact Nat.add_le_add (ih λx m=>h x (.tail _ m)) (Nat.le_of_lt (h l (.head _)))
theorem fl_bd9{ls:List (List Int)}(h:∀l∈ls,l.length<100000)(h9:ls.length<=9):ls.flatten.length<1000000:=Nat.lt_of_le_of_lt (Nat.le_trans (fl_bd h) (Nat.mul_le_mul_right _ h9)) (by decide)
theorem fl_b(hl:l.length<100000):([l]:List (List Int)).flatten.length<1000000:=fl_bd9 (λx m=>by cases m with|head=>exact hl|tail _ m=>exact nomatch m) (Nat.le_of_ble_eq_true rfl)
theorem fl_b2(hl:l.length<100000)(hl2:l2.length<100000):([l,l2]:List (List Int)).flatten.length<1000000:=fl_bd9 (λx m=>by cases m with|head=>exact hl|tail _ m=>cases m with|head=>exact hl2|tail _ m=>exact nomatch m) (Nat.le_of_ble_eq_true rfl)
theorem fl_b3(hl:l.length<100000)(hl2:l2.length<100000)(hl3:l3.length<100000):([l,l2,l3]:List (List Int)).flatten.length<1000000:=fl_bd9 (λx m=>by cases m with|head=>exact hl|tail _ m=>cases m with|head=>exact hl2|tail _ m=>cases m with|head=>exact hl3|tail _ m=>exact nomatch m) (Nat.le_of_ble_eq_true rfl)
theorem fo_un(h1:FO h (.tup (.int n1::p)) l)(hp:p.length<1000)(hl:l.length<100000)(hf:∀m,run fns (m+6) 23 [.tup [.int 13,.int k,.str s,.tup (.int n1::p),.int n2]]=M.pure (.int g)):FO (h+1) (.tup [.int 13,.int k,.str s,.tup (.int n1::p),.int n2]) ([l].flatten++fl1 g):=
 fo_all (ls:=[[],l,[]]) (.cons (.str _) (.cons (.nd h1 hp) (.cons (.int _) .nil))) (fl_b hl) (Nat.le_of_ble_eq_true rfl) hf
theorem fo_conv(h1:FO h (.tup (.int n1::p)) l)(hp1:p.length<1000)(hl1:l.length<100000)(hf:∀m,run fns (m+6) 23 [.tup [.int 19,.int k,.tup (.int n1::p),.int n4,.int n5]]=M.pure (.int g)):FO (h+1) (.tup [.int 19,.int k,.tup (.int n1::p),.int n4,.int n5]) ([l].flatten++fl1 g):=
 fo_all (ls:=[l,[],[]]) (.cons (.nd h1 hp1) (.cons (.int _) (.cons (.int _) .nil))) (fl_b hl1) (Nat.le_of_ble_eq_true rfl) hf
theorem fo_bin(h1:FO h (.tup (.int n1::p)) l)(hp1:p.length<1000)(hl1:l.length<100000)(h2:FO h (.tup (.int n2::q)) l2)(hp2:q.length<1000)(hl2:l2.length<100000)(hf:∀m,run fns (m+6) 23 [.tup [.int 14,.int k,.str s,.tup (.int n1::p),.tup (.int n2::q),.int n4]]=M.pure (.int g)):
  FO (h+1) (.tup [.int 14,.int k,.str s,.tup (.int n1::p),.tup (.int n2::q),.int n4]) ([l,l2].flatten++fl1 g):=
 fo_all (ls:=[[],l,l2,[]]) (.cons (.str _) (.cons (.nd h1 hp1) (.cons (.nd h2 hp2) (.cons (.int _) .nil)))) (fl_b2 hl1 hl2) (Nat.le_of_ble_eq_true rfl) hf
theorem fo_log(h1:FO h (.tup (.int n1::p)) l)(hp1:p.length<1000)(hl1:l.length<100000)(h2:FO h (.tup (.int n2::q)) l2)(hp2:q.length<1000)(hl2:l2.length<100000)(hf:∀m,run fns (m+6) 23 [.tup [.int n4,.int k,.tup (.int n1::p),.tup (.int n2::q)]]=M.pure (.int g)):
  FO (h+1) (.tup [.int n4,.int k,.tup (.int n1::p),.tup (.int n2::q)]) ([l,l2].flatten++fl1 g):=
 fo_all (ls:=[l,l2]) (.cons (.nd h1 hp1) (.cons (.nd h2 hp2) .nil)) (fl_b2 hl1 hl2) (Nat.le_of_ble_eq_true rfl) hf
theorem fo_cond(h1:FO h (.tup (.int n1::p)) l)(hp1:p.length<1000)(hl1:l.length<100000)(h2:FO h (.tup (.int n2::q)) l2)(hp2:q.length<1000)(hl2:l2.length<100000)(h3:FO h (.tup (.int n3::r)) l3)(hp3:r.length<1000)(hl3:l3.length<100000)(hf:∀m,run fns (m+6) 23 [.tup [.int n4,.int k,.tup (.int n1::p),.tup (.int n2::q),.tup (.int n3::r)]]=M.pure (.int g)):
  FO (h+1) (.tup [.int n4,.int k,.tup (.int n1::p),.tup (.int n2::q),.tup (.int n3::r)]) ([l,l2,l3].flatten++fl1 g):=
 fo_all (ls:=[l,l2,l3]) (.cons (.nd h1 hp1) (.cons (.nd h2 hp2) (.cons (.nd h3 hp3) .nil))) (fl_b3 hl1 hl2 hl3) (Nat.le_of_ble_eq_true rfl) hf
theorem fo_row{ys:List V}{ls:List (List Int)}(H:F2 (FO h) (.tup p::ys) ls)(hl:ls.flatten.length<1000000)(hy:ys.length<1000)(hf:∀m,run fns (m+6) 23 [.tup [.int 26,.int k,.tup (.tup p::ys)]]=M.pure (.int g)):FO (h+1) (.tup [.int 26,.int k,.tup (.tup p::ys)]) (ls.flatten++fl1 g):=
 (fo_all (ls:=[ls.flatten]) (.cons (.row H hy) .nil) (by rw[List.flatten_cons,List.flatten_nil,List.append_nil];exact hl) (Nat.le_of_ble_eq_true rfl) hf).of (congrArg (·++fl1 g) (List.append_nil _))
theorem fo_loc(hf:∀m,run fns (m+6) 23 [.tup [.int n4,.int k,.int n5]]=M.pure (.int g)):FO (h+1) (.tup [.int n4,.int k,.int n5]) (fl1 g):=fo_all (ls:=[[]]) (.cons (.int _) .nil) (Nat.succ_pos _) (Nat.le_of_ble_eq_true rfl) hf
theorem fo_cons(hf:∀m,run fns (m+6) 23 [.tup [.int 1,.int k,.str s]]=M.pure (.int g)):FO (h+1) (.tup [.int 1,.int k,.str s]) (fl1 g):=fo_all (ls:=[[]]) (.cons (.str _) .nil) (Nat.succ_pos _) (Nat.le_of_ble_eq_true rfl) hf
theorem fo_conn(hf:∀m,run fns (m+6) 23 [.tup [.int 1,.int k,.none]]=M.pure (.int g)):FO (h+1) (.tup [.int 1,.int k,.none]) (fl1 g):=fo_all (ls:=[[]]) (.cons .none .nil) (Nat.succ_pos _) (Nat.le_of_ble_eq_true rfl) hf
theorem fo_77:FO h (.tup [.int 7,.int 7,.tup []]) []:=λn=>oC f_law_found (.m 14 (.int 0) .e) (λ_ ez=>ai (fault_o (n+(h+6)) (c:=7) (r:=[.int 7,.tup []]) rfl rfl rfl) ez)
theorem fo_call{x:V}{l:List Int}(H:El h x l)(hl:l.length<1000000):FO (h+1) (.tup [.int 8,.int k,.none,.tup [.int 7,.int 7,.tup []],x,.int n4]) (l++fl1 0):=
 (fo_all (ls:=[[],[],l,[]]) (.cons .none (.cons (.nd fo_77 (Nat.le_of_ble_eq_true rfl)) (.cons H (.cons (.int _) .nil)))) (show(l++[]).length<1000000 from(List.append_nil l).symm▸hl) (Nat.le_of_ble_eq_true rfl) λm=>fault_o (m+5) (c:=8) rfl rfl rfl).of (congrArg (·++fl1 0) (List.append_nil l))
end
noncomputable def UM(h:Nat)(e u:V):Prop:=∀n,run fns (n+(h+8)) 51 [e]=M.pure u
section
variable{x y z u v u1 u2 u3:V}{p q r:List V}{h:Nat}{k k2 n4 n5:Int}{s:Str}
theorem UM.le{g:Nat}(w:UM h x u)(hg:h<=g):UM g x u:=by
 obtain⟨k,rfl⟩:=Nat.exists_eq_add_of_le hg
 exactλn=>run_at (by lia) (w (n+k))
theorem um_i:UM h (.int k) (.int k):=λn=>oC f_law_unmarked .e (λ_ ez=>ez)
theorem um_s:UM h (.str s) (.str s):=λn=>oC f_law_unmarked .e (λ_ ez=>ez)
theorem um_n:UM h .none .none:=λn=>oC f_law_unmarked .e (λ_ ez=>ez)
theorem compL_F2{R:V->V->Prop}{cond:V->M Bool}{elt:V->M V}(hc:∀v,cond v=M.pure true)(he:∀x u,R x u->elt x=M.pure u){xs us:List V}(H:F2 R xs us):compL cond elt xs=M.pure us:=by
 induction H with
 |nil=>rfl
 |cons h _ ih=>
  show(cond _).bind _=_
  rw[hc]
  show(elt _).bind _=_
  rw[he _ _ h]
  show(compL cond elt _).bind _=_
  rw[ih];rfl
theorem F2.len{α β:Type}{R:α->β->Prop}{as:List α}{bs:List β}(f:F2 R as bs):as.length=bs.length:=by
 induction f with
 |nil=>rfl
 |cons _ _ ih=>exact congrArg Nat.succ ih
theorem pv_comp{Φ:Nat->List V->M V}{ρ:Env'}{j:Nat}{elt iter:E}{u:V}{xs ys:List V}(hi:evE Φ ρ iter=M.pure u)(hx:itemsV u=some xs)(hy:ys.length<=lim)(he:F2 (λx y=>evE Φ (ρ.set j (.val x)) elt=M.pure y) xs ys):evE Φ ρ (.comp j elt iter .nil)=M.pure (.lst ys):=by
 show((evE Φ ρ iter).bind λx=>(M.lift (itemsV x)).bind λxs=>(compL (λv=>M.pure true) (λv=>evE Φ (ρ.set j (.val v)) elt) xs).bind λys=>M.lift (mkLst ys))=_
 rw[hi,M.pure_bind,hx,M.lift_s,M.pure_bind,compL_F2 (λ_=>rfl) (λ_ _ h=>h) he,M.pure_bind]
 exact congrArg M.lift (if_pos hy)
theorem F2.imp{α β:Type}{R R':α->β->Prop}{as:List α}{bs:List β}(f:F2 R as bs)(g:∀a b,R a b->R' a b):F2 R' as bs:=by
 induction f with
 |nil=>exact .nil
 |cons h _ ih=>exact .cons (g _ _ h) ih
theorem um_comp{xs us:List V}(H:F2 (UM h) xs us)(hx:xs.length<=lim)(n:Nat):evE (run fns (n+(h+8))) [.val (.tup xs),.none,.none] (.comp 2 (.call 51 (.cons (.loc 2) .nil)) (.loc 0) .nil)=M.pure (.lst us):=
 pv_comp rfl (it_tup hx) (H.len▸hx) (H.imp λ_ _ w=>w n)
theorem um_con3(hv:UM h v v):UM (h+1) (.tup [.int 1,.int k,v]) (.tup [.int 1,.int k,v]):=λn=>oC f_law_unmarked (.m 4 (.lst [.int 1,.int k,v]) .e) (λ_ ez=>ai (um_comp (h:=h) (xs:=[.int 1,.int k,v]) (us:=[.int 1,.int k,v]) (.cons um_i (.cons um_i (.cons hv .nil))) (Nat.le_of_ble_eq_true rfl) n) ez)
theorem um_loc:UM (h+1) (.tup [.int 2,.int k,.int k2]) (.tup [.int 2,.int k,.int k2]):=λn=>oC f_law_unmarked (.m 4 (.lst [.int 2,.int k,.int k2]) .e) (λ_ ez=>ai (um_comp (h:=h) (xs:=[.int 2,.int k,.int k2]) (us:=[.int 2,.int k,.int k2]) (.cons um_i (.cons um_i (.cons um_i .nil))) (Nat.le_of_ble_eq_true rfl) n) ez)
theorem um_dflt:UM (h+1) (.tup [.int 12,.int k]) (.tup [.int 12,.int k]):=λn=>oC f_law_unmarked (.m 4 (.lst [.int 12,.int k]) .e) (λ_ ez=>ai (um_comp (h:=h) (xs:=[.int 12,.int k]) (us:=[.int 12,.int k]) (.cons um_i (.cons um_i .nil)) (Nat.le_of_ble_eq_true rfl) n) ez)
theorem um_un(h1:UM h (.tup p) u1):UM (h+1) (.tup [.int 13,.int k,.str s,.tup p,.int n4]) (.tup [.int 13,.int k,.str s,u1,.int 0]):=λn=>oC f_law_unmarked (.m 4 (.lst [.int 13,.int k,.str s,u1,.int n4]) .e) (λ_ ez=>ai (um_comp (h:=h) (xs:=[.int 13,.int k,.str s,.tup p,.int n4]) (us:=[.int 13,.int k,.str s,u1,.int n4]) (.cons um_i (.cons um_i (.cons um_s (.cons h1 (.cons um_i .nil))))) (Nat.le_of_ble_eq_true rfl) n) ez)
theorem um_conv(h1:UM h (.tup p) u1):UM (h+1) (.tup [.int 19,.int k,.tup p,.int n5,.int n4]) (.tup [.int 19,.int k,u1,.int n5,.int 0]):=λn=>oC f_law_unmarked (.m 4 (.lst [.int 19,.int k,u1,.int n5,.int n4]) .e) (λ_ ez=>ai (um_comp (h:=h) (xs:=[.int 19,.int k,.tup p,.int n5,.int n4]) (us:=[.int 19,.int k,u1,.int n5,.int n4]) (.cons um_i (.cons um_i (.cons h1 (.cons um_i (.cons um_i .nil))))) (Nat.le_of_ble_eq_true rfl) n) ez)
theorem um_bin(h1:UM h (.tup p) u1)(h2:UM h (.tup q) u2):UM (h+1) (.tup [.int 14,.int k,.str s,.tup p,.tup q,.int n4]) (.tup [.int 14,.int k,.str s,u1,u2,.int 0]):=λn=>oC f_law_unmarked (.m 4 (.lst [.int 14,.int k,.str s,u1,u2,.int n4]) .e) (λ_ ez=>ai (um_comp (h:=h) (xs:=[.int 14,.int k,.str s,.tup p,.tup q,.int n4]) (us:=[.int 14,.int k,.str s,u1,u2,.int n4]) (.cons um_i (.cons um_i (.cons um_s (.cons h1 (.cons h2 (.cons um_i .nil)))))) (Nat.le_of_ble_eq_true rfl) n) ez)
theorem um_log(h1:UM h (.tup p) u1)(h2:UM h (.tup q) u2):UM (h+1) (.tup [.int n4,.int k,.tup p,.tup q]) (.tup [.int n4,.int k,u1,u2]):=λn=>oC f_law_unmarked (.m 4 (.lst [.int n4,.int k,u1,u2]) .e) (λ_ ez=>ai (um_comp (h:=h) (xs:=[.int n4,.int k,.tup p,.tup q]) (us:=[.int n4,.int k,u1,u2]) (.cons um_i (.cons um_i (.cons h1 (.cons h2 .nil)))) (Nat.le_of_ble_eq_true rfl) n) ez)
theorem um_cond(h1:UM h (.tup p) u1)(h2:UM h (.tup q) u2)(h3:UM h (.tup r) u3):UM (h+1) (.tup [.int 17,.int k,.tup p,.tup q,.tup r]) (.tup [.int 17,.int k,u1,u2,u3]):=λn=>oC f_law_unmarked (.m 4 (.lst [.int 17,.int k,u1,u2,u3]) .e) (λ_ ez=>ai (um_comp (h:=h) (xs:=[.int 17,.int k,.tup p,.tup q,.tup r]) (us:=[.int 17,.int k,u1,u2,u3]) (.cons um_i (.cons um_i (.cons h1 (.cons h2 (.cons h3 .nil))))) (Nat.le_of_ble_eq_true rfl) n) ez)
theorem um_t1(h1:UM h (.tup p) u1):UM (h+1) (.tup [.tup p]) (.tup [u1]):=λn=>oC f_law_unmarked (.m 4 (.lst [u1]) .e) (λ_ ez=>ai (um_comp (h:=h) (xs:=[.tup p]) (us:=[u1]) (.cons h1 .nil) (Nat.le_of_ble_eq_true rfl) n) ez)
theorem um_t2(h1:UM h (.tup p) u1)(h2:UM h (.tup q) u2):UM (h+1) (.tup [.tup p,.tup q]) (.tup [u1,u2]):=λn=>oC f_law_unmarked (.m 4 (.lst [u1,u2]) .e) (λ_ ez=>ai (um_comp (h:=h) (xs:=[.tup p,.tup q]) (us:=[u1,u2]) (.cons h1 (.cons h2 .nil)) (Nat.le_of_ble_eq_true rfl) n) ez)
theorem um_t3(h1:UM h (.tup p) u1)(h2:UM h (.tup q) u2)(h3:UM h (.tup r) u3):UM (h+1) (.tup [.tup p,.tup q,.tup r]) (.tup [u1,u2,u3]):=λn=>oC f_law_unmarked (.m 4 (.lst [u1,u2,u3]) .e) (λ_ ez=>ai (um_comp (h:=h) (xs:=[.tup p,.tup q,.tup r]) (us:=[u1,u2,u3]) (.cons h1 (.cons h2 (.cons h3 .nil))) (Nat.le_of_ble_eq_true rfl) n) ez)
theorem um_cat(h1:UM h (.tup p) u1):UM (h+1) (.tup [.int 26,.int k,.tup p]) (.tup [.int 26,.int k,u1]):=λn=>oC f_law_unmarked (.m 4 (.lst [.int 26,.int k,u1]) .e) (λ_ ez=>ai (um_comp (h:=h) (xs:=[.int 26,.int k,.tup p]) (us:=[.int 26,.int k,u1]) (.cons um_i (.cons um_i (.cons h1 .nil))) (Nat.le_of_ble_eq_true rfl) n) ez)
theorem um_t0:UM h (.tup []) (.tup []):=λn=>by kernel_rfl
theorem um_77:UM h (.tup [.int 7,.int 7,.tup []]) (.tup [.int 7,.int 7,.tup []]):=λn=>by kernel_rfl
theorem um_call(h1:UM h (.tup p) u1):UM (h+1) (.tup [.int 8,.int k,.none,.tup [.int 7,.int 7,.tup []],.tup p,.int n4]) (.tup [.int 8,.int k,.none,.tup [.int 7,.int 7,.tup []],u1,.int n4]):=λn=>oC f_law_unmarked (.m 4 (.lst [.int 8,.int k,.none,.tup [.int 7,.int 7,.tup []],u1,.int n4]) .e) (λ_ ez=>ai (um_comp (h:=h) (xs:=[.int 8,.int k,.none,.tup [.int 7,.int 7,.tup []],.tup p,.int n4]) (us:=[.int 8,.int k,.none,.tup [.int 7,.int 7,.tup []],u1,.int n4]) (.cons um_i (.cons um_i (.cons um_n (.cons um_77 (.cons h1 (.cons um_i .nil)))))) (Nat.le_of_ble_eq_true rfl) n) ez)
end
section
variable{k:Int}{s a b c:Str}{x y z:V}
theorem txt_s:Txt (con 13 (.str s)) (some s):=λm=>text_s m
theorem txt_n(h:(k==15)=false):Txt (con k .none) (some (Str.ofString "")):=λm=>text_n m h
theorem txt_U(u:Unk x):Txt x none:=λm=>text_U m u
theorem str_e:Str.ofString ""=Str.empty:=by rfl
theorem str_ext{a b:Str}(h:a.cps=b.cps):a=b:=by cases a;cases b;simp_all
theorem app_assoc(a b c:Str):a++b++c=a++(b++c):=str_ext (by
 show(a.cps++b.cps)++c.cps=a.cps++(b.cps++c.cps)
 rw[Array.append_assoc])
theorem e_app(a:Str):Str.empty++a=a:=str_ext (by show #[]++a.cps=a.cps;simp)
theorem app_e(a:Str):a++Str.empty=a:=str_ext (by show a.cps++#[]=a.cps;rfl)
end
inductive Rg:Int->Int->Int->Prop
 |bool:Rg 1 0 1
 |char:Rg 2 0 65535
 |i1:Rg 3 (-128) 127
 |u1:Rg 4 0 255
 |i2:Rg 5 (-32768) 32767
 |u2:Rg 6 0 65535
 |i4:Rg 7 (-2147483648) 2147483647
 |u4:Rg 8 0 4294967295
 |i8:Rg 9 (-9223372036854775808) 9223372036854775807
 |u8:Rg 10 0 18446744073709551615
 |e:Rg 40 0 127
inductive Okv:Nat->Int->V->Prop
 |num {h:Nat} {k lo hi a:Int}:Rg k lo hi->lo<=a->a<=hi->Okv h k (.int a)
 |str {h:Nat} {s:Str}:s.length<=4^(h+1)->Okv h 13 (.str s)
 |null {h:Nat} {k:Int}:k=12\/k=13\/k=14->Okv h k .none
section
variable{k lo hi a:Int}{v:V}{h g:Nat}
theorem Rg.rng(r:Rg k lo hi)(h1:2<=k)(h2:k<=10):dictGet dINT_RANGES k=some (.tup [.int lo,.int hi]):=by cases r<;>first|rfl|contradiction
theorem Rg.span(r:Rg k lo hi)(h1:2<=k)(h2:k<=10)(n:Nat):run fns (n+1) 37 [.int k]=M.pure (.tup [.int lo,.int hi]):=by
 refine span_ n ?_
 cases r<;>simp at h1 h2 ⊢
theorem Rg.pos(r:Rg k lo hi):hi-lo+1≠0:=by cases r<;>exact nofun
theorem Rg.ne15(r:Rg k lo hi):(k==15)=false/\(k==13)=false:=by cases r<;>exact⟨rfl,rfl⟩
theorem Okv.ne15(o:Okv h k v):(k==15)=false:=by
 cases o with
 |num r _ _=>exact r.ne15.1
 |str _=>rfl
 |null q=>rcases q with rfl|rfl|rfl<;>rfl
theorem Okv.le(o:Okv h k v)(hg:h<=g):Okv g k v:=by
 cases o with
 |num r h1 h2=>exact .num r h1 h2
 |str q=>exact .str (Nat.le_trans q (Nat.pow_le_pow_right (Nat.succ_pos _) (Nat.succ_le_succ (by assumption))))
 |null q=>exact .null q
end
section
variable{k lo hi a b c:Int}
theorem wrap_ok(r:Rg k lo hi)(a:Int):lo<=lo+(a-lo).fmod (hi-lo+1)/\lo+(a-lo).fmod (hi-lo+1)<=hi/\(lo+(a-lo).fmod (hi-lo+1)-a).fmod (hi-lo+1)=0:=by
 have hp:0<hi-lo+1:=by cases r<;>constructor
 rw[Int.fmod_eq_emod_of_nonneg _ (Int.le_of_lt hp),Int.fmod_eq_emod_of_nonneg _ (Int.le_of_lt hp)]
 have h1:=Int.emod_nonneg (a-lo) (by omega:hi-lo+1≠0)
 have h2:=Int.emod_lt_of_pos (a-lo) hp
 refine⟨by omega,by lia,?_⟩
 have:lo+(a-lo)%(hi-lo+1)-a=(hi-lo+1)*(-((a-lo)/(hi-lo+1))):=by
  have:=Int.emod_add_mul_ediv (a-lo) (hi-lo+1)
  rw[Int.mul_neg];lia
 rw[this,Int.mul_emod_right]
theorem inv_ok{wd:Int}(r:Num4 k lo hi wd)(h1:lo<=a)(h2:a<=hi):lo+(-1-a-lo).fmod (hi-lo+1)=lo+hi-a:=by
 rcases r.all with⟨_,rfl,rfl,_⟩|⟨_,rfl,rfl,_⟩|⟨_,rfl,rfl,_⟩|⟨_,rfl,rfl,_⟩<;>
 ·rw[Int.fmod_eq_emod_of_nonneg _ (by constructor)]
  simp only[Int.reduceSub,Int.reduceAdd,Int.reduceNeg]
  lia
end
noncomputable abbrev nulC:V:=.tup [.int 19,.int 41,.tup [.int 1,.int 14,.none],.int 8,.int 0]
inductive Sta where
 |K (v:V)
 |N
 |U (S:V)
noncomputable def Sta.sv(k:Int):Sta->V
 |.K v=>con k v
 |.N=>nulC
 |.U S=>S
noncomputable def Sta.isK:Sta->Bool
 |.K _=>true
 |_=>false
noncomputable def Sta.isU:Sta->Bool
 |.U _=>true
 |_=>false
noncomputable def Tp(S:V):Prop:=∃c p,S=.tup (.int c::p)/\p.length<1000
noncomputable def Pd(d:Nat)(v:V):Prop:=v.plain=true/\v.depth<=d
inductive StaOk(h:Nat)(k:Int):Sta->Prop
 |K {v:V}:Okv h k v->StaOk h k (.K v)
 |N:k=41->StaOk h k .N
 |U {S:V}:Unk S->Tp S->Pd (2*h+3) S->FA (h+1) S S->k≠14->StaOk h k (.U S)
inductive Sim(h:Nat):Sta->Sta->Prop
 |K (v:V):Sim h (.K v) (.K v)
 |N:Sim h .N .N
 |U {S S' u:V}:UM (2*h+2) S u->UM (2*h+2) S' u->Pd (2*h+3) u->Sim h (.U S) (.U S')
theorem pure_inj{α:Type}{a b:α}(h:(M.pure a:M α)=M.pure b):a=b:=by
 have:=congrFun h none
 simp only[M.pure,Option.some.injEq,Prod.mk.injEq,and_true]at this
 exact this
section
variable{k:Int}{v S S':V}{h g d e:Nat}{s t:Sta}{xs:List V}
theorem plains_of:∀{xs:List V},(∀x∈xs,x.plain=true)->V.plains xs=true
 |[],_=>rfl
 |x::r,h=>by
  simp only[V.plains,Bool.and_eq_true]
  exact⟨h x (List.mem_cons_self ..),plains_of λy hy=>h y (List.mem_cons_of_mem _ hy)⟩
theorem depths_of:∀{xs:List V},(∀x∈xs,x.depth<=d)->V.depths xs<=d
 |[],_=>Nat.zero_le _
 |x::r,h=>by
  simp only[V.depths]
  have h1:=h x (List.mem_cons_self ..)
  have h2:=depths_of λy hy=>h y (List.mem_cons_of_mem _ hy)
  lia
theorem Pd.tup(h:∀x∈xs,Pd d x):Pd (d+1) (.tup xs):=by
 refine⟨?_,?_⟩
 ·simp only[V.plain];exact plains_of λx hx=>(h x hx).1
 ·simp only[V.depth];have:=depths_of λx hx=>(h x hx).2;exact Nat.succ_le_succ (by assumption)
theorem Pd.lst(h:∀x∈xs,Pd d x):Pd (d+1) (.lst xs):=by
 refine⟨?_,?_⟩
 ·simp only[V.plain];exact plains_of λx hx=>(h x hx).1
 ·simp only[V.depth];have:=depths_of λx hx=>(h x hx).2;exact Nat.succ_le_succ (by assumption)
theorem Pd.le(p:Pd d v)(h:d<=e):Pd e v:=⟨p.1,Nat.le_trans p.2 h⟩
theorem pd_int{i:Int}:Pd d (.int i):=⟨rfl,Nat.zero_le _⟩
theorem pd_str{i:Str}:Pd d (.str i):=⟨rfl,Nat.zero_le _⟩
theorem pd_none:Pd d .none:=⟨rfl,Nat.zero_le _⟩
theorem Okv.pd(o:Okv h k v):Pd d v:=by
 cases o with
 |num _ _ _=>exact pd_int
 |str _=>exact pd_str
 |null _=>exact pd_none
theorem Okv.um(o:Okv h k v):UM g v v:=by
 cases o with
 |num _ _ _=>exact um_i
 |str _=>exact um_s
 |null _=>exact um_n
theorem con_pd(o:Okv h k v):Pd (d+1) (con k v):=Pd.tup (by
 intro x hx
 simp only[List.mem_cons,List.not_mem_nil,or_false]at hx
 rcases hx with rfl|rfl|rfl
 ·exact pd_int
 ·exact pd_int
 ·exact o.pd)
theorem con_um(o:Okv h k v):UM (g+1) (con k v) (con k v):=um_con3 o.um
theorem nul_pd:Pd 2 nulC:=⟨rfl,by constructor⟩
theorem nul_um:UM (g+2) nulC nulC:=um_conv (um_con3 um_n)
theorem nul_fa:FA (g+1) nulC nulC:=by
 refine fa_1 (x:=con 14 .none) (x':=con 14 .none) (e':=nulC) rfl (λm=>kids_conv m) fa_con (λm=>with_conv m) (λm=>?_)
 exact run_at rfl (conv_null_C (n:=m+3))
theorem StaOk.tp(o:StaOk h k s):Tp (s.sv k):=by
 cases o with
 |K _=>exact⟨_,_,rfl,by simp⟩
 |N _=>exact⟨_,_,rfl,by decide⟩
 |U _ t _ _ _=>exact t
theorem Tp.tup(t:Tp S):∃p,S=.tup p:=by obtain⟨c,p,rfl,_⟩:=t;exact⟨_,rfl⟩
theorem StaOk.pd(o:StaOk h k s):Pd (2*h+3) (s.sv k):=by
 cases o with
 |K o=>exact(con_pd o (d:=0)).le (Nat.succ_pos _)
 |N _=>exact nul_pd.le (Nat.le_add_left _ _)
 |U _ _ p _ _=>exact p
theorem StaOk.fa(o:StaOk h k s):FA (h+1) (s.sv k) (s.sv k):=by
 cases o with
 |K o=>exact fa_con
 |N _=>exact nul_fa
 |U _ _ _ f _=>exact f
theorem nul_kn(n:Nat):run fns (n+1) 16 [nulC]=M.pure (.bool false):=known_O n rfl
theorem nul_st(n:Nat):run fns (n+1) 45 [nulC]=M.pure (.bool false):=still_O n rfl
theorem StaOk.kn(o:StaOk h k s)(n:Nat):run fns (n+1) 16 [s.sv k]=M.pure (.bool s.isK):=by
 cases o with
 |K o=>exact known_K n o.ne15
 |N _=>exact nul_kn n
 |U u _ _ _ _=>exact u.kn n
theorem StaOk.st(o:StaOk h k s)(n:Nat):run fns (n+1) 45 [s.sv k]=M.pure (.bool s.isK):=by
 cases o with
 |K o=>exact still_K n o.ne15
 |N _=>exact nul_st n
 |U u _ _ _ _=>exact u.st n
theorem StaOk.le(o:StaOk h k s)(hg:h<=g):StaOk g k s:=by
 cases o with
 |K o=>exact .K (o.le hg)
 |N e=>exact .N e
 |U u t p f e=>exact .U u t (p.le (by lia)) (f.le (Nat.succ_le_succ (by assumption))) e
theorem Sim.le(o:Sim h s t)(hg:h<=g):Sim g s t:=by
 cases o with
 |K v=>exact .K v
 |N=>exact .N
 |U a b p=>exact .U (a.le (by lia)) (b.le (by lia)) (p.le (by lia))
theorem Sim.um(o:Sim h s t)(a:StaOk h k s):∃u,UM (2*h+2) (s.sv k) u/\UM (2*h+2) (t.sv k) u/\Pd (2*h+3) u:=by
 cases o with
 |K v=>cases a with|K a=>exact⟨_,(con_um a (g:=0)).le (Nat.succ_pos _),(con_um a (g:=0)).le (Nat.succ_pos _),(con_pd a (d:=0)).le (Nat.succ_pos _)⟩
 |N=>exact⟨_,(nul_um (g:=0)).le (Nat.le_add_left _ _),(nul_um (g:=0)).le (Nat.le_add_left _ _),nul_pd.le (Nat.le_add_left _ _)⟩
 |U x y p=>exact⟨_,x,y,p⟩
theorem Sim.isK(o:Sim h s t):s.isK=t.isK:=by cases o<;>rfl
end
noncomputable def nd1(f:V->Int->V)(cs:List V)(mk:Int):V:=match cs with
 |[a]=>f a mk
 |_=>.none
noncomputable def nd2(f:V->V->Int->V)(cs:List V)(mk:Int):V:=match cs with
 |[a,b]=>f a b mk
 |_=>.none
noncomputable def nd3(f:V->V->V->Int->V)(cs:List V)(mk:Int):V:=match cs with
 |[a,b,c]=>f a b c mk
 |_=>.none
structure Shape(code k:Int)(sg:V)(nd:List V->Int->V)(n:Nat):Prop where
 put:∀(m:Nat)(cs:List V)(r3 r4 r5:V)(ck:Int),cs.length=n->run fns (m+1) 44 [.tup [.int code,.int k,sg,r3,r4,r5],.lst cs,.int ck]=M.pure (nd cs ck)
 fa:∀(h:Nat)(Ws Ss:List V)(mk:Int)(S:V),Ws.length=n->F2 (FA h) Ws Ss->(∀W∈Ws,∃p,W=.tup p)->(∀m,run fns (m+7) 34 [nd Ss mk]=M.pure S)->FA (h+1) (nd Ws mk) S
 tp:∀cs mk,cs.length=n->∃c p,nd cs mk=.tup (.int c::p)/\p.length<1000/\(c==1)=false
 pd:∀d cs mk,cs.length=n->(∀c∈cs,Pd (d+1) c)->Pd (d+3) (nd cs mk)
 fo:∀(h:Nat)(cs:List V)(ls:List (List Int))(mk f:Int),cs.length=n->F2 (FO h) cs ls->(∀c∈cs,Tp c)->(∀l∈ls,l.length<100000)->(∀m,run fns (m+6) 23 [nd cs mk]=M.pure (.int f))->FO (h+1) (nd cs mk) (ls.flatten++fl1 f)
 um:∀(h:Nat)(cs us:List V)(mk:Int),cs.length=n->F2 (UM h) cs us->(∀c∈cs,∃p,c=.tup p)->UM (h+2) (nd cs mk) (nd us 0)
theorem ln1{α:Type}{l:List α}(h:l.length=1):∃a,l=[a]:=List.length_eq_one_iff.mp h
theorem ln2{α:Type}{l:List α}(h:l.length=2):∃a b,l=[a,b]:=by
 match l,h with
 |[a,b],_=>exact⟨a,b,rfl⟩
theorem ln3{α:Type}{l:List α}(h:l.length=3):∃a b c,l=[a,b,c]:=by
 match l,h with
 |[a,b,c],_=>exact⟨a,b,c,rfl⟩
theorem F2.i0{α β:Type}{R:α->β->Prop}{bs:List β}(f:F2 R [] bs):bs=[]:=by cases f;rfl
theorem F2.un{α β:Type}{R:α->β->Prop}{a:α}{as:List α}{bs:List β}(f:F2 R (a::as) bs):∃b bs',R a b/\F2 R as bs'/\bs=b::bs':=by
 cases f with|cons h f=>exact⟨_,_,h,f,rfl⟩
theorem F2.i1{α β:Type}{R:α->β->Prop}{a:α}{bs:List β}(f:F2 R [a] bs):∃b,bs=[b]/\R a b:=by
 obtain⟨b,_,h,f,e⟩:=f.un
 exact⟨b,f.i0▸e,h⟩
theorem F2.i2{α β:Type}{R:α->β->Prop}{a a':α}{bs:List β}(f:F2 R [a,a'] bs):∃b b',bs=[b,b']/\R a b/\R a' b':=by
 obtain⟨b,_,h,f,e⟩:=f.un
 obtain⟨b',e',h'⟩:=f.i1
 exact⟨b,b',e'▸e,h,h'⟩
theorem F2.i3{α β:Type}{R:α->β->Prop}{a a' a'':α}{bs:List β}(f:F2 R [a,a',a''] bs):∃b b' b'',bs=[b,b',b'']/\R a b/\R a' b'/\R a'' b'':=by
 obtain⟨b,_,h,f,e⟩:=f.un
 obtain⟨b',b'',e',h'⟩:=f.i2
 exact⟨b,b',b'',e'▸e,h,h'⟩
theorem le2{α:Type}{l:List α}(h:l.length<=2):l=[]\/(∃a,l=[a])\/∃a b,l=[a,b]:=by
 cases l with
 |nil=>exact .inl rfl
 |cons a l=>cases l with
  |nil=>exact .inr (.inl ⟨a,rfl⟩)
  |cons b l=>cases l with
   |nil=>exact .inr (.inr ⟨a,b,rfl⟩)
   |cons c l=>exact absurd h (Nat.not_succ_le_zero _∘Nat.le_of_succ_le_succ∘Nat.le_of_succ_le_succ)
theorem lt1000{p:List V}(h:(p.length.succ).ble 1000=true):p.length<1000:=Nat.le_of_ble_eq_true h
section
variable{k c b:Int}{s:Str}{sg:V}{n:Nat}
noncomputable abbrev fUn(k:Int)(s:Str)(a:V)(mk:Int):V:=.tup [.int 13,.int k,.str s,a,.int mk]
noncomputable abbrev fBin(k:Int)(s:Str)(a b:V)(mk:Int):V:=.tup [.int 14,.int k,.str s,a,b,.int mk]
noncomputable abbrev fNum(k:Int)(a:V)(mk:Int):V:=.tup [.int 19,.int k,a,.int 1,.int mk]
noncomputable abbrev fCv(k b:Int)(a:V)(_:Int):V:=.tup [.int 19,.int k,a,.int b,.int 0]
noncomputable abbrev fLog(c k:Int)(a b:V)(_:Int):V:=.tup [.int c,.int k,a,b]
noncomputable abbrev fCond(k:Int)(a b c:V)(_:Int):V:=.tup [.int 17,.int k,a,b,c]
noncomputable abbrev v77:V:=.tup [.int 7,.int 7,.tup []]
noncomputable def ndCall(k:Int)(cs:List V)(_:Int):V:=.tup [.int 8,.int k,.none,v77,.tup cs,.int 0]
theorem pd77{d:Nat}:Pd (d+2) v77:=⟨rfl,Nat.succ_le_succ (Nat.succ_le_succ (Nat.zero_le d))⟩
noncomputable def Pds(d:Nat)(xs:List V):Prop:=V.plains xs=true/\V.depths xs<=d
theorem Pds.nil{d:Nat}:Pds d []:=⟨rfl,Nat.zero_le d⟩
theorem Pds.cons{d:Nat}{x:V}{xs:List V}(a:Pd d x)(b:Pds d xs):Pds d (x::xs):=⟨Bool.and_eq_true_iff.mpr ⟨a.1,b.1⟩,Nat.max_le.mpr ⟨a.2,b.2⟩⟩
theorem Pds.tup{d:Nat}{xs:List V}(b:Pds d xs):Pd (d+1) (.tup xs):=⟨b.1,Nat.succ_le_succ b.2⟩
theorem Pds.i{d:Nat}{i:Int}{xs:List V}(b:Pds d xs):Pds d (.int i::xs):=.cons pd_int b
theorem Pds.up{d e:Nat}{xs:List V}(b:Pds d xs)(h:d+1<=e):Pd e (.tup xs):=b.tup.le h
theorem shape1{code:Int}{f:V->Int->V}(hput:∀m a r3 r4 r5 ck,run fns (m+1) 44 [.tup [.int code,.int k,sg,r3,r4,r5],.lst [a],.int ck]=M.pure (f a ck))
  (hfa:∀h p S' mk S,FA h (.tup p) S'->(∀m,run fns (m+7) 34 [f S' mk]=M.pure S)->FA (h+1) (f (.tup p) mk) S)
  (htp:∀a mk,∃c p,f a mk=.tup (.int c::p)/\p.length<1000/\(c==1)=false)(hpd:∀d a mk,Pd (d+1) a->Pd (d+3) (f a mk))
  (hfo:∀h c p l mk g,FO h (.tup (.int c::p)) l->p.length<1000->l.length<100000->(∀m,run fns (m+6) 23 [f (.tup (.int c::p)) mk]=M.pure (.int g))->FO (h+1) (f (.tup (.int c::p)) mk) ([l].flatten++fl1 g))
  (hum:∀h p u mk,UM h (.tup p) u->UM (h+1) (f (.tup p) mk) (f u 0)):Shape code k sg (nd1 f) 1 where
 put m cs r3 r4 r5 ck hn:=by obtain⟨a,rfl⟩:=ln1 hn;exact hput ..
 fa h Ws Ss mk S hn hF hW hf:=by
  obtain⟨a,rfl⟩:=ln1 hn
  obtain⟨b,rfl,h1⟩:=hF.i1
  obtain⟨p,rfl⟩:=hW a (.head _)
  exact hfa _ _ _ _ _ h1 hf
 tp cs mk hn:=by obtain⟨a,rfl⟩:=ln1 hn;exact htp a mk
 pd d cs mk hn hc:=by obtain⟨a,rfl⟩:=ln1 hn;exact hpd d a mk (hc a (.head _))
 fo h cs ls mk f hn hF ht hl hf:=by
  obtain⟨a,rfl⟩:=ln1 hn
  obtain⟨l,rfl,h1⟩:=hF.i1
  obtain⟨c,p,rfl,hp⟩:=ht a (.head _)
  exact hfo _ _ _ _ _ _ h1 hp (hl l (.head _)) hf
 um h cs us mk hn hF ht:=by
  obtain⟨a,rfl⟩:=ln1 hn
  obtain⟨u,rfl,h1⟩:=hF.i1
  obtain⟨p,rfl⟩:=ht a (.head _)
  exact(hum _ _ _ _ h1).le (Nat.le_succ _)
theorem shape2{code:Int}{f:V->V->Int->V}(hput:∀m a b r3 r4 r5 ck,run fns (m+1) 44 [.tup [.int code,.int k,sg,r3,r4,r5],.lst [a,b],.int ck]=M.pure (f a b ck))
  (hfa:∀h p q S1 S2 mk S,FA h (.tup p) S1->FA h (.tup q) S2->(∀m,run fns (m+7) 34 [f S1 S2 mk]=M.pure S)->FA (h+1) (f (.tup p) (.tup q) mk) S)
  (htp:∀a b mk,∃c p,f a b mk=.tup (.int c::p)/\p.length<1000/\(c==1)=false)(hpd:∀d a b mk,Pd (d+1) a->Pd (d+1) b->Pd (d+3) (f a b mk))
  (hfo:∀h c p l c2 q l2 mk g,FO h (.tup (.int c::p)) l->p.length<1000->l.length<100000->FO h (.tup (.int c2::q)) l2->q.length<1000->l2.length<100000->(∀m,run fns (m+6) 23 [f (.tup (.int c::p)) (.tup (.int c2::q)) mk]=M.pure (.int g))->FO (h+1) (f (.tup (.int c::p)) (.tup (.int c2::q)) mk) ([l,l2].flatten++fl1 g))
  (hum:∀h p u q w mk,UM h (.tup p) u->UM h (.tup q) w->UM (h+1) (f (.tup p) (.tup q) mk) (f u w 0)):Shape code k sg (nd2 f) 2 where
 put m cs r3 r4 r5 ck hn:=by obtain⟨a,b,rfl⟩:=ln2 hn;exact hput ..
 fa h Ws Ss mk S hn hF hW hf:=by
  obtain⟨a,b,rfl⟩:=ln2 hn
  obtain⟨a',b',rfl,h1,h2⟩:=hF.i2
  obtain⟨p,rfl⟩:=hW a (.head _)
  obtain⟨q,rfl⟩:=hW b (.tail _ (.head _))
  exact hfa _ _ _ _ _ _ _ h1 h2 hf
 tp cs mk hn:=by obtain⟨a,b,rfl⟩:=ln2 hn;exact htp a b mk
 pd d cs mk hn hc:=by obtain⟨a,b,rfl⟩:=ln2 hn;exact hpd d a b mk (hc a (.head _)) (hc b (.tail _ (.head _)))
 fo h cs ls mk f hn hF ht hl hf:=by
  obtain⟨a,b,rfl⟩:=ln2 hn
  obtain⟨l,l2,rfl,h1,h2⟩:=hF.i2
  obtain⟨c,p,rfl,hp⟩:=ht a (.head _)
  obtain⟨d,q,rfl,hq⟩:=ht b (.tail _ (.head _))
  exact hfo _ _ _ _ _ _ _ _ _ h1 hp (hl l (.head _)) h2 hq (hl l2 (.tail _ (.head _))) hf
 um h cs us mk hn hF ht:=by
  obtain⟨a,b,rfl⟩:=ln2 hn
  obtain⟨u,u',rfl,h1,h2⟩:=hF.i2
  obtain⟨p,rfl⟩:=ht a (.head _)
  obtain⟨q,rfl⟩:=ht b (.tail _ (.head _))
  exact(hum _ _ _ _ _ _ h1 h2).le (Nat.le_succ _)
theorem shape_un:Shape 13 k (.str s) (nd1 (fUn k s)) 1:=
 shape1 (λm _ _ _ _ _=>put_un m) (λ_ _ _ _ _ h1 hf=>fa_1 rfl (λm=>kids_un m) h1 (λm=>with_un m) hf) (λ_ _=>⟨_,_,rfl,lt1000 rfl,rfl⟩) (λ_ _ _ ha=>Pds.up (.i (.i (.cons pd_str (.cons ha (.i .nil))))) (Nat.le_succ _))
  (λ_ _ _ _ _ _ h hp hl hf=>fo_un h hp hl hf) (λ_ _ _ _ h=>um_un h)
theorem shape_num:Shape 19 k (.int 1) (nd1 (fNum k)) 1:=
 shape1 (λm _ _ _ _ _=>put_num m) (λ_ _ _ _ _ h1 hf=>fa_1 rfl (λm=>kids_conv m) h1 (λm=>with_conv m) hf) (λ_ _=>⟨_,_,rfl,lt1000 rfl,rfl⟩) (λ_ _ _ ha=>Pds.up (.i (.i (.cons ha (.i (.i .nil))))) (Nat.le_succ _))
  (λ_ _ _ _ _ _ h hp hl hf=>fo_conv h hp hl hf) (λ_ _ _ _ h=>um_conv h)
theorem shape_cv(hb:(b==1)=false):Shape 19 k (.int b) (nd1 (fCv k b)) 1:=
 shape1 (λm _ _ _ _ _=>put_cv m hb) (λ_ _ _ _ _ h1 hf=>fa_1 rfl (λm=>kids_conv m) h1 (λm=>with_conv m) hf) (λ_ _=>⟨_,_,rfl,lt1000 rfl,rfl⟩) (λ_ _ _ ha=>Pds.up (.i (.i (.cons ha (.i (.i .nil))))) (Nat.le_succ _))
  (λ_ _ _ _ _ _ h hp hl hf=>fo_conv h hp hl hf) (λ_ _ _ _ h=>um_conv h)
theorem shape_bin:Shape 14 k (.str s) (nd2 (fBin k s)) 2:=
 shape2 (λm _ _ _ _ _ _=>put_bin m) (λ_ _ _ _ _ _ _ h1 h2 hf=>fa_2 rfl (λm=>kids_bin m) h1 h2 (λm=>with_bin m) hf) (λ_ _ _=>⟨_,_,rfl,lt1000 rfl,rfl⟩) (λ_ _ _ _ ha hb=>Pds.up (.i (.i (.cons pd_str (.cons ha (.cons hb (.i .nil)))))) (Nat.le_succ _))
  (λ_ _ _ _ _ _ _ _ _ h hp hl h2 hq hl2 hf=>fo_bin h hp hl h2 hq hl2 hf) (λ_ _ _ _ _ _ h h2=>um_bin h h2)
theorem shape_log(hc:c=15\/c=16):Shape c k sg (nd2 (fLog c k)) 2:=
 shape2 (λm _ _ _ _ _ _=>put_ks m (hc.imp id .inl) (nofun) (Nat.le_of_ble_eq_true rfl)) (λ_ _ _ _ _ _ _ h1 h2 hf=>by
  rcases hc with rfl|rfl
  ·exact fa_2 rfl (λm=>kids_and m) h1 h2 (λm=>with_and m) hf
  ·exact fa_2 rfl (λm=>kids_or m) h1 h2 (λm=>with_or m) hf) (λ_ _ _=>⟨_,_,rfl,lt1000 rfl,by rcases hc with rfl|rfl<;>rfl⟩) (λ_ _ _ _ ha hb=>Pds.up (.i (.i (.cons ha (.cons hb .nil)))) (Nat.le_succ _))
  (λ_ _ _ _ _ _ _ _ _ h hp hl h2 hq hl2 hf=>fo_log h hp hl h2 hq hl2 hf) (λ_ _ _ _ _ _ h h2=>um_log h h2)
theorem shape_cond:Shape 17 k sg (nd3 (fCond k)) 3 where
 put m cs r3 r4 r5 ck hn:=by obtain⟨a,b,c,rfl⟩:=ln3 hn;exact put_ks m (.inr (.inr rfl)) (nofun) (Nat.le_of_ble_eq_true rfl)
 fa h Ws Ss mk S hn hF hW hf:=by
  obtain⟨a,b,c,rfl⟩:=ln3 hn
  obtain⟨a',b',c',rfl,h1,h2,h3⟩:=hF.i3
  obtain⟨p,rfl⟩:=hW a (.head _)
  obtain⟨q,rfl⟩:=hW b (.tail _ (.head _))
  obtain⟨r,rfl⟩:=hW c (.tail _ (.tail _ (.head _)))
  exact fa_3 rfl (λm=>kids_cond m) h1 h2 h3 (λm=>with_cond m) hf
 tp cs mk hn:=by obtain⟨a,b,c,rfl⟩:=ln3 hn;exact⟨_,_,rfl,lt1000 rfl,rfl⟩
 pd d cs mk hn hc:=by
  obtain⟨a,b,c,rfl⟩:=ln3 hn
  exact Pds.up (.i (.i (.cons (hc a (.head _)) (.cons (hc b (.tail _ (.head _))) (.cons (hc c (.tail _ (.tail _ (.head _)))) .nil))))) (Nat.le_succ _)
 fo h cs ls mk f hn hF ht hl hf:=by
  obtain⟨a,b,c,rfl⟩:=ln3 hn
  obtain⟨l,l2,l3,rfl,h1,h2,h3⟩:=hF.i3
  obtain⟨c1,p,rfl,hp⟩:=ht a (.head _)
  obtain⟨d,q,rfl,hq⟩:=ht b (.tail _ (.head _))
  obtain⟨d',q',rfl,hq'⟩:=ht c (.tail _ (.tail _ (.head _)))
  exact fo_cond h1 hp (hl l (.head _)) h2 hq (hl l2 (.tail _ (.head _))) h3 hq' (hl l3 (.tail _ (.tail _ (.head _)))) hf
 um h cs us mk hn hF ht:=by
  obtain⟨a,b,c,rfl⟩:=ln3 hn
  obtain⟨u,u',u'',rfl,h1,h2,h3⟩:=hF.i3
  obtain⟨p,rfl⟩:=ht a (.head _)
  obtain⟨q,rfl⟩:=ht b (.tail _ (.head _))
  obtain⟨q',rfl⟩:=ht c (.tail _ (.tail _ (.head _)))
  exact(um_cond h1 h2 h3).le (Nat.le_succ _)
theorem call_fo{h:Nat}{cs:List V}{f:Int}(hf:∀m,run fns (m+6) 23 [ndCall k cs 0]=M.pure (.int f)):f=0:=by
 have e:=pure_inj ((hf 0).symm.trans (fault_o 5 (c:=8) rfl rfl rfl))
 injection e
theorem shape_call(hn2:n<=2):Shape 8 k sg (ndCall k) n where
 put m cs r3 r4 r5 ck hn:=put_call m (by rw[hn];exact Nat.le_trans hn2 (Nat.le_of_ble_eq_true rfl))
 fa h Ws Ss mk S hn hF hW hf:=by
  rcases le2 (hn.symm▸hn2)with rfl|⟨a,rfl⟩|⟨a,b,rfl⟩
  ·cases hF.i0
   exact fa_0 rfl (λm=>kids_call0 m) hf
  ·obtain⟨a',rfl,h1⟩:=hF.i1
   exact fa_1 rfl (λm=>kids_call1 m) h1 (λm=>with_call1 m) hf
  ·obtain⟨a',b',rfl,h1,h2⟩:=hF.i2
   exact fa_2 rfl (λm=>kids_call2 m) h1 h2 (λm=>with_call2 m) hf
 tp cs mk hn:=⟨_,_,rfl,lt1000 rfl,rfl⟩
 pd d cs mk hn hc:=Pds.tup (.i (.i (.cons pd_none (.cons pd77 (.cons (Pd.tup hc) (.i .nil))))))
 fo h cs ls mk f hn hF ht hl hf:=by
  cases call_fo (h:=h) hf
  rcases le2 (hn.symm▸hn2)with rfl|⟨a,rfl⟩|⟨a,b,rfl⟩
  ·cases hF.i0
   exact fo_call .nil (Nat.succ_pos _)
  ·obtain⟨l,rfl,h1⟩:=hF.i1
   obtain⟨c,p,rfl,hp⟩:=ht a (.head _)
   exact fo_call (.row hF (Nat.succ_pos _)) (fl_b (hl l (.head _)))
  ·obtain⟨l,l2,rfl,h1,h2⟩:=hF.i2
   obtain⟨c,p,rfl,hp⟩:=ht a (.head _)
   exact fo_call (.row hF (Nat.le_of_ble_eq_true rfl)) (fl_b2 (hl l (.head _)) (hl l2 (.tail _ (.head _))))
 um h cs us mk hn hF ht:=by
  rcases le2 (hn.symm▸hn2)with rfl|⟨a,rfl⟩|⟨a,b,rfl⟩
  ·cases hF.i0
   exact um_call um_t0
  ·obtain⟨u,rfl,h1⟩:=hF.i1
   obtain⟨p,rfl⟩:=ht a (.head _)
   exact um_call (um_t1 h1)
  ·obtain⟨u,u',rfl,h1,h2⟩:=hF.i2
   obtain⟨p,rfl⟩:=ht a (.head _)
   obtain⟨q,rfl⟩:=ht b (.tail _ (.head _))
   exact um_call (um_t2 h1 h2)
end
inductive MeanOk(k:Int):Sta->V->Prop
 |K (v:V) (g:Int):MeanOk k (.K v) (mn 1 v g)
 |N (g:Int):MeanOk k .N (mn 2 .none g)
 |U (S:V) (a g:Int):MeanOk k (.U S) (mn 0 (.int a) g)
 |V (S:V) (g:Int):k=41->MeanOk k (.U S) (mn 0 .none g)
noncomputable def svs:List Int->List Sta->List V
 |j::js,s::ss=>s.sv j::svs js ss
 |_,_=>[]
noncomputable def allK(sts:List Sta):Bool:=sts.all Sta.isK
noncomputable def One(row:V)(cs:List V)(bs:List Bool)(ck lo:Int)(S:V)(f mk:Int):Prop:=
 mk=(if lo=0/\false∉bs then 1 else ck)/\∃e0 e,(∀m,run fns (m+1) 44 [row,.lst cs,.int ck]=M.pure e0)/\(∀m,run fns (m+2) 19 [e0,.int lo]=M.pure e)/\
  (∀m,run fns (m+1) 44 [row,.lst cs,.int mk]=M.pure e)/\Pd 100 e/\(∀m,run fns (m+6) 23 [e]=M.pure (.int f))/\(∀m,run fns (m+7) 34 [e]=M.pure S)
noncomputable abbrev rw6(code k:Int)(sg r3 r4 r5:V):V:=.tup [.int code,.int k,sg,r3,r4,r5]
noncomputable def ofO(r:Option V)(e:V):Sta:=match r with
 |some v=>.K v
 |none=>.U e
structure KS(code k:Int)(sg:V)(nd:List V->Int->V)(h:Nat)(cs vs:List V)(r1 r0:Option V)(f1 f0:Int)(mv:V):Prop where
 t1:∀m,run fns (m+6) 23 [nd cs 1]=M.pure (.int f1)
 d1:∀m,run fns (m+7) 34 [nd cs 1]=M.pure ((ofO r1 (nd cs 1)).sv k)
 t0:∀m,run fns (m+6) 23 [nd cs 0]=M.pure (.int f0)
 d0:∀m,run fns (m+7) 34 [nd cs 0]=M.pure ((ofO r0 (nd cs 0)).sv k)
 o1:∀v,r1=some v->Okv (h+1) k v
 o0:∀v,r0=some v->Okv (h+1) k v
 z0:r0.isSome=true->f0=0
 me:∀m r3 r4 r5 ms,F2 (λv m=>∃g,m=mn 1 v g) vs ms->run fns (m+3) 49 [rw6 code k sg r3 r4 r5,.lst ms]=M.pure (mn (if r1.isSome=true then 1 else 0) mv f1)
 rel:(r1=some mv/\f1=0/\r0=some mv/\f0=0)\/(r1=none/\(f0=0\/f0=20)/\(f1=0->r0=none)/\(∃a,mv=.int a)/\
  (20<f1->∀m r3 r4 r5,run fns (m+2) 53 [rw6 code k sg r3 r4 r5,(ofO r0 (nd cs 0)).sv k,mv]=M.pure (.bool true)))
inductive KSx(code k:Int)(sg:V)(nd:List V->Int->V)(h:Nat)(cs vs:List V):Prop
 |mk {r1 r0:Option V} {f1 f0:Int} {mv:V} (s:KS code k sg nd h cs vs r1 r0 f1 f0 mv):KSx code k sg nd h cs vs
structure Gen(code k:Int)(sg:V)(nd:List V->Int->V)(js:List Int)(fU:List Sta->Int):Prop where
 sh:Shape code k sg nd js.length
 c26:(code==26)=false
 ne:k≠14
 asc:∀h sts ck m,F2 (StaOk h) js sts->run fns (m+2) 19 [nd (svs js sts) ck,.int 0]=M.pure (nd (svs js sts) (if allK sts=true then 1 else ck))
 unk:∀cs mk,cs.length=js.length->Unk (nd cs mk)
 ks:∀h vs,F2 (Okv h) js vs->KSx code k sg nd h (svs js (vs.map Sta.K)) vs
 us:∀h sts mk,F2 (StaOk h) js sts->allK sts=false->(∀m,run fns (m+6) 23 [nd (svs js sts) mk]=M.pure (.int (fU sts)))/\(∀m,run fns (m+7) 34 [nd (svs js sts) mk]=M.pure (nd (svs js sts) mk))
 mu:∀h sts ms,F2 (StaOk h) js sts->F2 (λ(p:Int×Sta) m=>MeanOk p.1 p.2 m) (js.zip sts) ms->allK sts=false->
  ∀m r3 r4 r5,run fns (m+3) 49 [rw6 code k sg r3 r4 r5,.lst ms]=M.pure (mn 0 (.int 0) (fU sts))
 f20:∀sts,fU sts=0\/fU sts=20
 fsim:∀h sts sts',F2 (Sim h) sts sts'->fU sts=fU sts'
section
variable{h:Nat}{js:List Int}{sts sts':List Sta}{code k ck lo:Int}{sg r3 r4 r5:V}{nd:List V->Int->V}{fU:List Sta->Int}
theorem svs_len(f:F2 (StaOk h) js sts):(svs js sts).length=js.length:=by
 induction f with
 |nil=>rfl
 |cons _ _ ih=>exact congrArg Nat.succ ih
theorem svs_F(f:F2 (StaOk h) js sts):F2 (FA (h+1)) (svs js sts) (svs js sts):=by
 induction f with
 |nil=>exact .nil
 |cons o _ ih=>exact .cons o.fa ih
theorem svs_all{P:V->Prop}(hP:∀j s,StaOk h j s->P (s.sv j))(f:F2 (StaOk h) js sts):∀c∈svs js sts,P c:=by
 induction f with
 |nil=>exactλc hc=>nomatch hc
 |cons o _ ih=>exact List.forall_mem_cons.mpr ⟨hP _ _ o,ih⟩
theorem svs_um(f:F2 (StaOk h) js sts):∀{sts':List Sta},F2 (Sim h) sts sts'->∃us,F2 (UM (2*h+2)) (svs js sts) us/\F2 (UM (2*h+2)) (svs js sts') us/\∀u∈us,Pd (2*h+3) u:=by
 induction f with
 |nil=>exactλg=>g.i0▸⟨[],.nil,.nil,λu hu=>nomatch hu⟩
 |cons o _ ih=>
  intro sts' g
  obtain⟨s',ss',s,g',rfl⟩:=g.un
  obtain⟨us,a,b,c⟩:=ih g'
  obtain⟨u,a',b',c'⟩:=s.um o
  exact⟨u::us,.cons a' a,.cons b' b,List.forall_mem_cons.mpr ⟨c',c⟩⟩
theorem allK_vs(f:F2 (StaOk h) js sts):allK sts=true->∃vs,sts=vs.map Sta.K/\F2 (Okv h) js vs:=by
 induction f with
 |nil=>exactλ_=>⟨[],rfl,.nil⟩
 |@cons j s js sts o _ ih=>
  intro e
  have e:=Bool.and_eq_true_iff.mp (show(s.isK&&allK sts)=true from e)
  obtain⟨vs,e2,g⟩:=ih e.2
  cases o with
  |K o=>exact⟨_::vs,congrArg _ e2,.cons o g⟩
  |_=>exact nomatch e.1
theorem allK_map(vs:List V):allK (vs.map Sta.K)=true:=by
 induction vs with
 |nil=>rfl
 |cons v vs ih=>exact ih
theorem sim_K{vs:List V}:∀{sts':List Sta},F2 (Sim h) (vs.map Sta.K) sts'->sts'=vs.map Sta.K:=by
 induction vs with
 |nil=>exactλg=>g.i0
 |cons v vs ih=>
  intro sts' g
  obtain⟨s',ss',s,g',rfl⟩:=g.un
  cases s
  exact congrArg _ (ih g')
theorem sim_allK(g:F2 (Sim h) sts sts'):allK sts=allK sts':=by
 induction g with
 |nil=>rfl
 |@cons s s' sts sts' a _ ih=>
  show(s.isK&&allK sts)=(s'.isK&&allK sts')
  rw[a.isK,ih]
theorem false_allK{sts:List Sta}:false∉sts.map Sta.isK↔allK sts=true:=by
 induction sts with
 |nil=>decide
 |cons s sts ih=>
  show false∉s.isK::sts.map Sta.isK↔(s.isK&&allK sts)=true
  rw[List.mem_cons,not_or,ih,Bool.and_eq_true]
  exact and_congr_left' (by cases s.isK<;>decide)
theorem U_ok(G:Gen code k sg nd js fU)(hv:F2 (StaOk h) js sts)(mk:Int)(hf:∀m,run fns (m+7) 34 [nd (svs js sts) mk]=M.pure (nd (svs js sts) mk)):StaOk (h+1) k (.U (nd (svs js sts) mk)):=by
 have hl:=svs_len hv
 refine .U (G.unk _ _ hl) ?_ ?_ ?_ G.ne
 ·obtain⟨c,p,e,hp,_⟩:=G.sh.tp (svs js sts) mk hl
  exact⟨c,p,e,hp⟩
 ·exact G.sh.pd (2*h+2) _ mk hl (svs_all (λj s o=>o.pd) hv)
 ·exact G.sh.fa (h+1) _ _ mk _ hl (svs_F hv) (svs_all (λj s o=>o.tp.tup) hv) hf
theorem nd_pd(G:Gen code k sg nd js fU)(hv:F2 (StaOk h) js sts)(hh:h<=20)(mk:Int):Pd 100 (nd (svs js sts) mk):=
 (G.sh.pd (2*h+2) _ mk (svs_len hv) (svs_all (λj s o=>o.pd) hv)).le (by lia)
theorem nd_loose(G:Gen code k sg nd js fU)(hv:F2 (StaOk h) js sts)(mk:Int)(m:Nat):run fns (m+2) 19 [nd (svs js sts) mk,.int 1]=M.pure (nd (svs js sts) mk):=by
 obtain⟨c,p,e,_,_⟩:=G.sh.tp (svs js sts) mk (svs_len hv)
 rw[e]
 exact asc_loose (m+1)
structure Mo(code k:Int)(sg:V)(nd:List V->Int->V)(h:Nat)(cs:List V)(bs:List Bool)(ck lo:Int)(st:Sta)(f mk:Int):Prop where
 o:∀r3 r4 r5,One (rw6 code k sg r3 r4 r5) cs bs ck lo (st.sv k) f mk
 ok:StaOk (h+1) k st
 z:st.isU=false->f=0
 eU:st.isU=true->st=.U (nd cs mk)
 t:∀m,run fns (m+6) 23 [nd cs mk]=M.pure (.int f)
 d:∀m,run fns (m+7) 34 [nd cs mk]=M.pure (st.sv k)
theorem ofO_U{r:Option V}{e:V}:(ofO r e).isU=true->ofO r e=.U e:=by
 cases r with
 |some v=>exactλq=>nomatch q
 |none=>exactλ_=>rfl
theorem ofO_z{r:Option V}{e:V}{P:Prop}(h:∀v,r=some v->P):(ofO r e).isU=false->P:=by
 cases r with
 |some v=>exactλ_=>h v rfl
 |none=>exactλq=>nomatch q
theorem ofO_ok{r:Option V}{e:V}(h1:∀v,r=some v->Okv (h+1) k v)(h2:r=none->StaOk (h+1) k (.U e)):StaOk (h+1) k (ofO r e):=by
 cases r with
 |some v=>exact .K (h1 v rfl)
 |none=>exact h2 rfl
section
variable{vs:List V}{r1 r0:Option V}{f1 f0:Int}{mv:V}
theorem KS.z1{cs:List V}(S:KS code k sg nd h cs vs r1 r0 f1 f0 mv):∀v,r1=some v->f1=0:=λv e=>by
 rcases S.rel with⟨_,q,_⟩|⟨q,_⟩
 ·exact q
 ·exact nomatch q.symm.trans e
theorem mode_K0(G:Gen code k sg nd js fU)(hh:h<=20)(hv:F2 (StaOk h) js (vs.map Sta.K))(S:KS code k sg nd h (svs js (vs.map Sta.K)) vs r1 r0 f1 f0 mv):
  Mo code k sg nd h (svs js (vs.map Sta.K)) ((vs.map Sta.K).map Sta.isK) ck 0 (ofO r1 (nd (svs js (vs.map Sta.K)) 1)) f1 1 where
 o _ _ _:=⟨(if_pos ⟨rfl,false_allK.mpr (allK_map vs)⟩).symm,_,_,λm=>G.sh.put m _ _ _ _ _ (svs_len hv),λm=>(G.asc h _ ck m hv).trans (congrArg (λi=>M.pure (nd (svs js (vs.map Sta.K)) i)) (if_pos (allK_map vs))),λm=>G.sh.put m _ _ _ _ _ (svs_len hv),nd_pd G hv hh _,S.t1,S.d1⟩
 ok:=ofO_ok S.o1 λe=>U_ok G hv 1 λm=>(S.d1 m).trans (by rw[e];rfl)
 z:=ofO_z S.z1
 eU:=ofO_U
 t:=S.t1
 d:=S.d1
theorem mode_K1(G:Gen code k sg nd js fU)(hh:h<=20)(hv:F2 (StaOk h) js (vs.map Sta.K))(S:KS code k sg nd h (svs js (vs.map Sta.K)) vs r1 r0 f1 f0 mv):
  Mo code k sg nd h (svs js (vs.map Sta.K)) ((vs.map Sta.K).map Sta.isK) 0 1 (ofO r0 (nd (svs js (vs.map Sta.K)) 0)) f0 0 where
 o _ _ _:=⟨(if_neg λq=>nomatch q.1).symm,_,_,λm=>G.sh.put m _ _ _ _ _ (svs_len hv),λm=>nd_loose G hv 0 m,λm=>G.sh.put m _ _ _ _ _ (svs_len hv),nd_pd G hv hh _,S.t0,S.d0⟩
 ok:=ofO_ok S.o0 λe=>U_ok G hv 0 λm=>(S.d0 m).trans (by rw[e];rfl)
 z:=ofO_z λv e=>S.z0 (e▸rfl)
 eU:=ofO_U
 t:=S.t0
 d:=S.d0
theorem mode_U(G:Gen code k sg nd js fU)(hh:h<=20)(hv:F2 (StaOk h) js sts)(ha:allK sts=false)(hlo:lo=0\/lo=1)(ck:Int):Mo code k sg nd h (svs js sts) (sts.map Sta.isK) ck lo (.U (nd (svs js sts) ck)) (fU sts) ck where
 o _ _ _:=⟨(if_neg λq=>nomatch ha.symm.trans (false_allK.mp q.2)).symm,_,_,λm=>G.sh.put m _ _ _ _ _ (svs_len hv),λm=>by
  rcases hlo with rfl|rfl
  ·rw[G.asc h _ ck m hv,ha];rfl
  ·exact nd_loose G hv ck m,λm=>G.sh.put m _ _ _ _ _ (svs_len hv),nd_pd G hv hh _,(G.us h sts ck hv ha).1,(G.us h sts ck hv ha).2⟩
 ok:=U_ok G hv ck (G.us h sts ck hv ha).2
 z q:=nomatch q
 eU _:=rfl
 t:=(G.us h sts ck hv ha).1
 d:=(G.us h sts ck hv ha).2
end
inductive Mx(code k:Int)(sg:V)(nd:List V->Int->V)(h:Nat)(js:List Int)(sts:List Sta)(ck lo:Int):Prop
 |mk (st:Sta) (f mk:Int) (m:Mo code k sg nd h (svs js sts) (sts.map Sta.isK) ck lo st f mk) (a:st.isU=false->allK sts=true) (e:allK sts=false->st=.U (nd (svs js sts) ck)) (fl:lo=1->f=0\/f=20):Mx code k sg nd h js sts ck lo
theorem mode_any(G:Gen code k sg nd js fU)(hh:h<=20)(hv:F2 (StaOk h) js sts)(hcl:lo=0\/(lo=1/\ck=0)):Mx code k sg nd h js sts ck lo:=by
 cases ha:allK sts with
 |false=>exact⟨_,_,_,mode_U G hh hv ha (hcl.imp id And.left) ck,(λq=>nomatch q),λ_=>rfl,λ_=>G.f20 _⟩
 |true=>
  obtain⟨vs,rfl,hv'⟩:=allK_vs hv ha
  obtain⟨S⟩:=G.ks h vs hv'
  rcases hcl with rfl|⟨rfl,rfl⟩
  ·exact⟨_,_,_,mode_K0 G hh hv S,λ_=>ha,(λq=>nomatch ha.symm.trans q),λq=>nomatch q⟩
  ·exact⟨_,_,_,mode_K1 G hh hv S,λ_=>ha,(λq=>nomatch ha.symm.trans q),λ_=>S.rel.elim (λq=>.inl q.2.2.2) λq=>q.2.1⟩
end
structure Rec where
 k:Int
 h:Nat
 code:Int
 rk:Int
 sg:V
 ck:Int
 lo:Int
 idx:List Nat
 sm:Sta
 ss:Sta
 sp:Sta
 sl:Sta
 fm:Int
 fs:Int
 fl:Int
 mm:Int
 ms:Int
 mp:Int
 ml:Int
 mst:Int
 mv:V
 clean:Bool
 l:List Int
noncomputable def Rec.row(r:Rec):V:=rw6 r.code r.rk r.sg (.int r.ck) (.int r.lo) (.tup (r.idx.map λ(i:Nat)=>V.int i))
noncomputable def Rec.mean(r:Rec):V:=mn r.mst r.mv r.fs
structure Sem(r:Rec):Prop where
 om:StaOk r.h r.k r.sm
 os:StaOk r.h r.k r.ss
 op:StaOk r.h r.k r.sp
 ol:StaOk r.h r.k r.sl
 fo:FO (r.h+2) (r.sm.sv r.k) r.l
 ll:r.l.length<=4^r.h
 lk:r.sm.isU=false->r.l=[]
 simp:Sim r.h r.ss r.sp
 siml:r.clean=true->Sim r.h r.ss r.sl
 simm:r.clean=true->Sim r.h r.ss r.sm
 cl:r.ss.isU=false->r.clean=true
 me:MeanOk r.k r.ss r.mean
structure Stp(kids:List Rec)(r:Rec):Prop where
 om:One r.row (kids.map λq=>q.sm.sv q.k) (kids.map λq=>q.sm.isK) r.ck r.lo (r.sm.sv r.k) r.fm r.mm
 os:One r.row (kids.map λq=>q.ss.sv q.k) (kids.map λq=>q.ss.isK) 1 0 (r.ss.sv r.k) r.fs r.ms
 op:One r.row (kids.map λq=>q.sp.sv q.k) (kids.map λq=>q.sp.isK) 0 0 (r.sp.sv r.k) r.fs r.mp
 ol:One r.row (kids.map λq=>q.sl.sv q.k) (kids.map λq=>q.sl.isK) 0 1 (r.sl.sv r.k) r.fl r.ml
 f20:r.fl=0\/r.fl=20
 me:∀m,run fns (m+3) 49 [r.row,.lst (kids.map Rec.mean)]=M.pure r.mean
 cl:r.clean=(kids.all Rec.clean&&r.fs==0)
 tu:kids.all Rec.clean=true->20<r.fs->∀m,run fns (m+2) 53 [r.row,r.sl.sv r.k,r.mv]=M.pure (.bool true)
 rk:r.rk=r.k\/(r.rk=15/\r.sm=.U (con 15 .none)/\r.ss=.U (con 15 .none)/\r.mv=.int 0)
 l:r.l=(kids.map Rec.l).flatten++fl1 r.fm
 wh:∀(g:Nat)(Ws:List V),F2 (λW q=>FA (g+2) W (q.sm.sv q.k)) Ws kids->(∀W∈Ws,∃p,W=.tup p)->∃e,(∀m,run fns (m+1) 44 [r.row,.lst Ws,.int r.mm]=M.pure e)/\FA (g+3) e (r.sm.sv r.k)/\∃p,e=.tup p
 wb:r.code=26->∀(g:Nat)(Ws:List V)(b:Nat),F2 (λW q=>FA (g+2) W (q.sm.sv q.k)) Ws kids->(∀W∈Ws,∃p,W=.tup p)->(b=0\/b=Ws.length-2)->(∀q∈(kids.drop b).take 2,q.sm.isK=true)->
  ∃e,(∀m,run fns (m+1) 44 [r.row,.lst (Ws.take b++[.tup [.int 26,.int 13,.tup ((Ws.drop b).take 2)]]++Ws.drop (b+2)),.int r.mm]=M.pure e)/\FA (g+4) e (r.sm.sv r.k)/\∃p,e=.tup p
inductive Mk(kids:List Rec)(k:Int)(h:Nat)(row:V)(idx:List Nat):Prop
 |mk (r:Rec) (s:Sem r) (t:Stp kids r) (ek:r.k=k) (eh:r.h=h) (er:r.row=row) (ei:r.idx=idx):Mk kids k h row idx
section
variable{h:Nat}{js:List Int}{sts sts':List Sta}{code k ck lo:Int}{sg r3 r4 r5:V}{nd:List V->Int->V}{fU:List Sta->Int}
theorem svs_map(f:Rec->Sta):∀kids:List Rec,svs (kids.map Rec.k) (kids.map f)=kids.map λq=>(f q).sv q.k
 |[]=>rfl
 |q::kids=>by simp only[List.map_cons,svs,svs_map f kids]
theorem F2_map{α β γ:Type}{R:α->β->Prop}{a:γ->α}{b:γ->β}:∀{kids:List γ},(∀q∈kids,R (a q) (b q))->F2 R (kids.map a) (kids.map b)
 |[],_=>.nil
 |q::kids,hq=>.cons (hq q (List.mem_cons_self ..)) (F2_map λp hp=>hq p (List.mem_cons_of_mem _ hp))
theorem F2_mapl{α β γ:Type}{R:α->β->Prop}{b:γ->β}:∀{as:List α}{kids:List γ},F2 (λx q=>R x (b q)) as kids->F2 R as (kids.map b)
 |_,_,.nil=>.nil
 |_,_,.cons h f=>.cons h (F2_mapl f)
theorem zip_map{α β γ:Type}{a:γ->α}{b:γ->β}:∀kids:List γ,(kids.map a).zip (kids.map b)=kids.map λq=>(a q,b q)
 |[]=>rfl
 |q::kids=>by simp only[List.map_cons,List.zip_cons_cons,zip_map kids]
theorem kn_fo{st:Sta}(o:StaOk h k st)(hu:st.isU=false):FO (h+2) (st.sv k) []:=by
 have hf:∀{r:List V}(m:Nat),run fns (m+6) 23 [.tup (.int 1::r)]=M.pure (.int 0):=λm=>fault_o (m+5) (c:=1) rfl rfl rfl
 cases o with
 |K o=>
  cases o with
  |num _ _ _=>exact fo_loc (h:=h+1) (g:=0) hf
  |str _=>exact fo_cons (h:=h+1) (g:=0) hf
  |null _=>exact fo_conn (h:=h+1) (g:=0) hf
 |N _=>
  have h1:FO (h+1) (con 14 .none) (fl1 0):=fo_conn (h:=h) (g:=0) hf
  exact fo_conv (g:=0) h1 (by decide) (Nat.succ_pos _) (λm=>fault_cv (m+5) rfl)
 |U _ _ _ _ _=>exact Bool.noConfusion (hu)
theorem sim_nd(G:Gen code k sg nd js fU)(hv:F2 (StaOk h) js sts)(hv':F2 (StaOk h) js sts')(hs:F2 (Sim h) sts sts')(mk mk':Int):Sim (h+1) (.U (nd (svs js sts) mk)) (.U (nd (svs js sts') mk')):=by
 obtain⟨us,a,b,c⟩:=svs_um hv hs
 have hl:=svs_len hv
 have hu:us.length=js.length:=by rw[←a.len,hl]
 refine .U (G.sh.um _ _ us mk hl a (svs_all (λj s o=>o.tp.tup) hv)) (G.sh.um _ _ us mk' (svs_len hv') b (svs_all (λj s o=>o.tp.tup) hv')) ?_
 exact G.sh.pd (2*h+2) us 0 hu c
theorem sim_refl_K:∀{vs:List V},F2 (Sim h) (vs.map Sta.K) (vs.map Sta.K)
 |[]=>.nil
 |v::vs=>.cons (.K v) sim_refl_K
theorem flat_nil{kids:List Rec}:(∀q∈kids,q.l=[])->(kids.map Rec.l).flatten=[]:=by
 intro hq
 induction kids with
 |nil=>rfl
 |cons q kids ih=>
  rw[List.map_cons,List.flatten_cons,hq q (List.mem_cons_self ..),ih λp hp=>hq p (List.mem_cons_of_mem _ hp)];rfl
theorem flat_len{kids:List Rec}(hl:∀q∈kids,Sem q/\q.h<=h):(kids.map Rec.l).flatten.length<=kids.length*4^h:=by
 induction kids with
 |nil=>exact Nat.zero_le _
 |cons q kids ih=>
  have h1:=ih λp hp=>hl p (List.mem_cons_of_mem _ hp)
  have h2:=(hl q (List.mem_cons_self ..)).1.ll
  have h3:4^q.h<=4^h:=Nat.pow_le_pow_right (Nat.succ_pos _) (hl q (List.mem_cons_self ..)).2
  rw[List.map_cons,List.flatten_cons,List.length_append,List.length_cons,Nat.succ_mul]
  lia
theorem fl1_len(f:Int):(fl1 f).length<=1:=by unfold fl1;split<;>simp
theorem ll_ok{kids:List Rec}(hl:∀q∈kids,Sem q/\q.h<=h)(hk:kids.length<=3)(f:Int):((kids.map Rec.l).flatten++fl1 f).length<=4^(h+1):=by
 have h1:=flat_len hl
 have h2:=fl1_len f
 have h3:1<=4^h:=Nat.one_le_pow _ _ (Nat.succ_pos _)
 have h4:kids.length*4^h<=3*4^h:=Nat.mul_le_mul_right _ hk
 rw[List.length_append,Nat.pow_succ]
 lia
theorem allK_mem{kids:List Rec}{f:Rec->Sta}(ha:allK (kids.map f)=true):∀q∈kids,(f q).isK=true:=by
 intro q hq
 simp only[allK,List.all_map,List.all_eq_true]at ha
 exact ha q hq
theorem isK_U{s:Sta}(h:s.isK=true):s.isU=false:=by cases s<;>first|rfl|exact Eq.symm (by assumption)
theorem fo_res(G:Gen code k sg nd js fU){kids:List Rec}(hh:h<=7)(hk:kids.map Rec.k=js)(hl:∀q∈kids,Sem q/\q.h<=h){st:Sta}{f mk:Int}(o:StaOk (h+1) k st)(e:st.isU=true->st=.U (nd (kids.map λq=>q.sm.sv q.k) mk))(hz:st.isU=false->allK (kids.map Rec.sm)=true/\f=0)
  (hf:∀m,run fns (m+6) 23 [nd (kids.map λq=>q.sm.sv q.k) mk]=M.pure (.int f)):FO (h+1+2) (st.sv k) ((kids.map Rec.l).flatten++fl1 f)/\(st.isU=false->(kids.map Rec.l).flatten++fl1 f=[]):=by
 have hnil:st.isU=false->(kids.map Rec.l).flatten++fl1 f=[]:=λq=>by
  obtain⟨a,rfl⟩:=hz q
  rw[flat_nil λp hp=>(hl p hp).1.lk (isK_U (allK_mem a p hp))]
  rfl
 refine⟨?_,hnil⟩
 cases hu:st.isU with
 |false=>rw[hnil hu];exact kn_fo o hu
 |true=>
  have hlen:(kids.map λq=>q.sm.sv q.k).length=js.length:=by rw[←hk,List.length_map,List.length_map]
  rw[e hu]
  refine G.sh.fo (h+2) _ _ mk f hlen (F2_map λq hq=>?_) ?_ ?_ hf
  ·exact(hl q hq).1.fo.le (by have:=(hl q hq).2;exact Nat.add_le_add_right (by assumption) _)
  ·intro c hc
   obtain⟨q,hq,rfl⟩:=List.mem_map.mp hc
   exact(hl q hq).1.om.tp
  ·intro l hll
   obtain⟨q,hq,rfl⟩:=List.mem_map.mp hll
   have h1:=(hl q hq).1.ll
   have h3:4^q.h<=4^7:=Nat.pow_le_pow_right (Nat.succ_pos _) (by have:=(hl q hq).2;exact Nat.le_trans (by assumption) (by assumption))
   exact Nat.lt_of_le_of_lt (Nat.le_trans h1 h3) (by decide)
end
section
variable{h:Nat}{js:List Int}{sts sts':List Sta}{code k ck lo:Int}{sg r3 r4 r5:V}{nd:List V->Int->V}{fU:List Sta->Int}
theorem wh_ok(G:Gen code k sg nd js fU){kids:List Rec}(hk:kids.map Rec.k=js){S:V}{mk:Int}(hf:∀m,run fns (m+7) 34 [nd (kids.map λq=>q.sm.sv q.k) mk]=M.pure S)(g:Nat)(Ws:List V)
  (hF:F2 (λW q=>FA (g+2) W (q.sm.sv q.k)) Ws kids)(hW:∀W∈Ws,∃p,W=.tup p):∃e,(∀m,run fns (m+1) 44 [rw6 code k sg r3 r4 r5,.lst Ws,.int mk]=M.pure e)/\FA (g+3) e S/\∃p,e=.tup p:=by
 have hl:Ws.length=js.length:=by rw[hF.len,←hk,List.length_map]
 refine⟨nd Ws mk,λm=>G.sh.put m _ _ _ _ _ hl,G.sh.fa (g+2) Ws _ mk S hl (F2_mapl hF) hW hf,?_⟩
 obtain⟨c,p,e,_,_⟩:=G.sh.tp Ws mk hl
 exact⟨_,e⟩
theorem all_clean{kids:List Rec}(hl:∀q∈kids,Sem q/\q.h<=h)(ha:allK (kids.map Rec.ss)=true):kids.all Rec.clean=true:=by
 rw[List.all_eq_true]
 intro q hq
 exact(hl q hq).1.cl (isK_U (allK_mem ha q hq))
theorem sv_of_K{kids:List Rec}{f:Rec->Sta}{js:List Int}(hk:kids.map Rec.k=js){sts:List Sta}(e:kids.map f=sts):(kids.map λq=>(f q).sv q.k)=svs js sts:=by
 rw[←hk,←e,svs_map]
theorem isK_of{kids:List Rec}{f:Rec->Sta}{sts:List Sta}(e:kids.map f=sts):(kids.map λq=>(f q).isK)=sts.map Sta.isK:=by
 rw[←e,List.map_map];rfl
theorem mean_K:∀{js:List Int}{vs:List V}{ms:List V},F2 (Okv h) js vs->F2 (λ(p:Int×Sta) m=>MeanOk p.1 p.2 m) (js.zip (vs.map Sta.K)) ms->F2 (λv m=>∃g,m=mn 1 v g) vs ms
 |_,_,_,.nil,.nil=>.nil
 |_,_,_,.cons o f,.cons a b=>.cons (by cases a;exact⟨_,rfl⟩) (mean_K f b)
theorem One.at{kids:List Rec}{f:Rec->Sta}{sts:List Sta}{row S:V}{F mk:Int}(hk:kids.map Rec.k=js)(e:kids.map f=sts)(o:One row (svs js sts) (sts.map Sta.isK) ck lo S F mk):One row (kids.map λq=>(f q).sv q.k) (kids.map λq=>(f q).isK) ck lo S F mk:=by
 rw[sv_of_K hk e,isK_of e];exact o
section
variable{kids:List Rec}{f mk:Int}{st:Sta}
theorem wb_no(G:Gen code k sg nd js fU){P:Prop}(q:code=26):P:=nomatch G.c26.symm.trans (beq_iff_eq.mpr q)
theorem rec_K(G:Gen code k sg nd js fU)(hkn:kids.length<=3)(hk:kids.map Rec.k=js)(hl:∀q∈kids,Sem q/\q.h<=h)(hh:h<=7){vs:List V}(es:kids.map Rec.ss=vs.map Sta.K)(ep:kids.map Rec.sp=vs.map Sta.K)(el:kids.map Rec.sl=vs.map Sta.K)(em:kids.map Rec.sm=vs.map Sta.K)
  (hv:F2 (Okv h) js vs)(vK:F2 (StaOk h) js (vs.map Sta.K))(hc:kids.all Rec.clean=true)(me_:F2 (λ(p:Int×Sta) m=>MeanOk p.1 p.2 m) (js.zip (vs.map Sta.K)) (kids.map Rec.mean)){r1 r0:Option V}{f1 f0:Int}{mv:V}(S:KS code k sg nd h (svs js (vs.map Sta.K)) vs r1 r0 f1 f0 mv)
  (S10:f1=0->Sim (h+1) (ofO r1 (nd (svs js (vs.map Sta.K)) 1)) (ofO r0 (nd (svs js (vs.map Sta.K)) 0)))(S11:Sim (h+1) (ofO r1 (nd (svs js (vs.map Sta.K)) 1)) (ofO r1 (nd (svs js (vs.map Sta.K)) 1)))
  (M:Mo code k sg nd h (svs js (vs.map Sta.K)) ((vs.map Sta.K).map Sta.isK) ck lo st f mk)(M3:f1=0->Sim (h+1) (ofO r1 (nd (svs js (vs.map Sta.K)) 1)) st)(idx:List Nat):Mk kids k (h+1) (rw6 code k sg (.int ck) (.int lo) (.tup (idx.map λ(i:Nat)=>V.int i))) idx:=by
 have hh':h<=20:=Nat.le_trans hh (Nat.le_of_ble_eq_true rfl)
 have cm_:=sv_of_K (f:=Rec.sm) hk em
 have FR:=fo_res (f:=f) (mk:=mk) G hh hk hl M.ok (by rw[cm_];exact M.eU) (λq=>⟨by rw[em];exact allK_map vs,M.z q⟩) (by rw[cm_];exact M.t)
 have K0:=λck=>mode_K0 (ck:=ck) G hh' vK S
 have K1:=mode_K1 G hh' vK S
 refine⟨{k:=k,h:=h+1,code:=code,rk:=k,sg:=sg,ck:=ck,lo:=lo,idx:=idx,sm:=st,ss:=ofO r1 (nd (svs js (vs.map Sta.K)) 1),sp:=ofO r1 (nd (svs js (vs.map Sta.K)) 1),sl:=ofO r0 (nd (svs js (vs.map Sta.K)) 0),fm:=f,fs:=f1,fl:=f0,mm:=mk,ms:=1,mp:=1,ml:=0,mst:=if r1.isSome=true then 1 else 0,mv:=mv,clean:=f1==0,l:=(kids.map Rec.l).flatten++fl1 f},
  ⟨M.ok,(K0 0).ok,(K0 0).ok,K1.ok,FR.1,ll_ok hl hkn f,FR.2,S11,λq=>S10 (eq_of_beq q),λq=>M3 (eq_of_beq q),λq=>beq_iff_eq.mpr ((K0 0).z q),?_⟩,
  ⟨One.at hk em (M.o _ _ _),One.at hk es ((K0 1).o _ _ _),One.at hk ep ((K0 0).o _ _ _),One.at hk el (K1.o _ _ _),S.rel.elim (λq=>.inl q.2.2.2) λq=>q.2.1,λm=>S.me m _ _ _ _ (mean_K hv me_),(congrArg (·&&f1==0) hc).symm,λ_ hgt m=>?_,.inl rfl,rfl,λg Ws hF hW=>wh_ok G hk (by rw[cm_];exact M.d) g Ws hF hW,wb_no G⟩,rfl,rfl,rfl,rfl⟩
 ·rcases S.rel with⟨e1,_⟩|⟨e1,_,_,⟨a,ea⟩,_⟩
  ·rw[e1];exact .K mv f1
  ·rw[e1,ea];exact .U _ a f1
 ·rcases S.rel with⟨_,e,_⟩|⟨_,_,_,_,q⟩
  ·have hgt:20<f1:=hgt
   exact absurd (e▸hgt) (by decide)
  ·exact q hgt m _ _ _
theorem rec_U(G:Gen code k sg nd js fU)(hkn:kids.length<=3)(hk:kids.map Rec.k=js)(hl:∀q∈kids,Sem q/\q.h<=h)(hh:h<=7)(vm:F2 (StaOk h) js (kids.map Rec.sm))(vs_:F2 (StaOk h) js (kids.map Rec.ss))(vp:F2 (StaOk h) js (kids.map Rec.sp))(vl:F2 (StaOk h) js (kids.map Rec.sl))
  (sp_:F2 (Sim h) (kids.map Rec.ss) (kids.map Rec.sp))(sl_:kids.all Rec.clean=true->F2 (Sim h) (kids.map Rec.ss) (kids.map Rec.sl))(sm_:kids.all Rec.clean=true->F2 (Sim h) (kids.map Rec.ss) (kids.map Rec.sm))(me_:F2 (λ(p:Int×Sta) m=>MeanOk p.1 p.2 m) (js.zip (kids.map Rec.ss)) (kids.map Rec.mean))(ha:allK (kids.map Rec.ss)=false)
  {tl:Sta}{fl ml:Int}(M:Mo code k sg nd h (svs js (kids.map Rec.sm)) ((kids.map Rec.sm).map Sta.isK) ck lo st f mk)(Ma:st.isU=false->allK (kids.map Rec.sm)=true)(Me:allK (kids.map Rec.sm)=false->st=.U (nd (svs js (kids.map Rec.sm)) ck))
  (L:Mo code k sg nd h (svs js (kids.map Rec.sl)) ((kids.map Rec.sl).map Sta.isK) 0 1 tl fl ml)(Le:allK (kids.map Rec.sl)=false->tl=.U (nd (svs js (kids.map Rec.sl)) 0))(L4:fl=0\/fl=20)(idx:List Nat):Mk kids k (h+1) (rw6 code k sg (.int ck) (.int lo) (.tup (idx.map λ(i:Nat)=>V.int i))) idx:=by
 have hh':h<=20:=Nat.le_trans hh (Nat.le_of_ble_eq_true rfl)
 have E:=mode_U G hh' vs_ ha (.inl rfl) 1
 have P:=mode_U G hh' vp ((sim_allK sp_).symm.trans ha) (.inl rfl) 0
 rw[←G.fsim h _ _ sp_]at P
 have cm_:=sv_of_K (f:=Rec.sm) hk rfl
 have FR:=fo_res (f:=f) (mk:=mk) G hh hk hl M.ok (by rw[cm_];exact M.eU) (λq=>⟨Ma q,M.z q⟩) (by rw[cm_];exact M.t)
 have hq:∀{q:Int},(kids.all Rec.clean&&q==0)=true->kids.all Rec.clean=true:=λq=>(Bool.and_eq_true_iff.mp q).1
 exact⟨{k:=k,h:=h+1,code:=code,rk:=k,sg:=sg,ck:=ck,lo:=lo,idx:=idx,sm:=st,ss:=.U (nd (svs js (kids.map Rec.ss)) 1),sp:=.U (nd (svs js (kids.map Rec.sp)) 0),sl:=tl,fm:=f,fs:=fU (kids.map Rec.ss),fl:=fl,mm:=mk,ms:=1,mp:=0,ml:=ml,mst:=0,mv:=.int 0,clean:=kids.all Rec.clean&&fU (kids.map Rec.ss)==0,l:=(kids.map Rec.l).flatten++fl1 f},
  ⟨M.ok,E.ok,P.ok,L.ok,FR.1,ll_ok hl hkn f,FR.2,sim_nd G vs_ vp sp_ 1 0,λq=>(Le ((sim_allK (sl_ (hq q))).symm.trans ha)).symm▸sim_nd G vs_ vl (sl_ (hq q)) 1 0,λq=>(Me ((sim_allK (sm_ (hq q))).symm.trans ha)).symm▸sim_nd G vs_ vm (sm_ (hq q)) 1 _,(λq=>nomatch q),.U _ 0 _⟩,
  ⟨One.at hk rfl (M.o _ _ _),One.at hk rfl (E.o _ _ _),One.at hk rfl (P.o _ _ _),One.at hk rfl (L.o _ _ _),L4,λm=>G.mu h _ _ vs_ me_ ha m _ _ _,rfl,λ_ hgt=>absurd (show 20<fU (kids.map Rec.ss)from hgt) (by rcases G.f20 (kids.map Rec.ss)with e|e<;>rw[e]<;>decide),.inl rfl,rfl,λg Ws hF hW=>wh_ok G hk (by rw[cm_];exact M.d) g Ws hF hW,wb_no G⟩,rfl,rfl,rfl,rfl⟩
theorem gen_rec(G:Gen code k sg nd js fU)(hn:js.length<=3)(kids:List Rec)(hk:kids.map Rec.k=js)(hl:∀q∈kids,Sem q/\q.h<=h)(hh:h<=7)(hcl:(lo=0/\(ck=0\/ck=1))\/(lo=1/\ck=0))(idx:List Nat):Mk kids k (h+1) (rw6 code k sg (.int ck) (.int lo) (.tup (idx.map λ(i:Nat)=>V.int i))) idx:=by
 have hcl':lo=0\/(lo=1/\ck=0):=hcl.imp And.left id
 have hh':h<=20:=Nat.le_trans hh (Nat.le_of_ble_eq_true rfl)
 have hkn:kids.length<=3:=by rw[←hk,List.length_map]at hn;exact hn
 have vm:F2 (StaOk h) js (kids.map Rec.sm):=hk▸F2_map λq hq=>(hl q hq).1.om.le (hl q hq).2
 have vs_:F2 (StaOk h) js (kids.map Rec.ss):=hk▸F2_map λq hq=>(hl q hq).1.os.le (hl q hq).2
 have vp:F2 (StaOk h) js (kids.map Rec.sp):=hk▸F2_map λq hq=>(hl q hq).1.op.le (hl q hq).2
 have vl:F2 (StaOk h) js (kids.map Rec.sl):=hk▸F2_map λq hq=>(hl q hq).1.ol.le (hl q hq).2
 have sp_:F2 (Sim h) (kids.map Rec.ss) (kids.map Rec.sp):=F2_map λq hq=>(hl q hq).1.simp.le (hl q hq).2
 have sl_:kids.all Rec.clean=true->F2 (Sim h) (kids.map Rec.ss) (kids.map Rec.sl):=λe=>F2_map λq hq=>((hl q hq).1.siml (List.all_eq_true.mp e q hq)).le (hl q hq).2
 have sm_:kids.all Rec.clean=true->F2 (Sim h) (kids.map Rec.ss) (kids.map Rec.sm):=λe=>F2_map λq hq=>((hl q hq).1.simm (List.all_eq_true.mp e q hq)).le (hl q hq).2
 have me_:F2 (λ(p:Int×Sta) m=>MeanOk p.1 p.2 m) (js.zip (kids.map Rec.ss)) (kids.map Rec.mean):=by
  rw[←hk,zip_map];exact F2_map λq hq=>(hl q hq).1.me
 cases ha:allK (kids.map Rec.ss)with
 |true=>
  have hc:=all_clean hl ha
  obtain⟨vs,es,hv⟩:=allK_vs vs_ ha
  rw[es]at vs_ me_
  obtain@⟨r1,r0,f1,f0,mv,S⟩:=G.ks h vs hv
  have SN:=λmk mk'=>sim_nd G vs_ vs_ sim_refl_K mk mk'
  have S11:∀r:Option V,Sim (h+1) (ofO r (nd (svs js (vs.map Sta.K)) 1)) (ofO r (nd (svs js (vs.map Sta.K)) 1)):=λr=>by
   cases r with
   |some v=>exact .K v
   |none=>exact SN 1 1
  have S10:f1=0->Sim (h+1) (ofO r1 (nd (svs js (vs.map Sta.K)) 1)) (ofO r0 (nd (svs js (vs.map Sta.K)) 0)):=λq=>by
   rcases S.rel with⟨e1,_,e0,_⟩|⟨e1,_,e0,_⟩
   ·rw[e1,e0];exact .K mv
   ·rw[e1,e0 q];exact SN 1 0
  have R:=λst f mk M M3=>rec_K (ck:=ck) (lo:=lo) (st:=st) (f:=f) (mk:=mk) G hkn hk hl hh es (sim_K (es▸sp_)) (sim_K (es▸sl_ hc)) (sim_K (es▸sm_ hc)) hv vs_ hc me_ S S10 (S11 _) M M3 idx
  rcases hcl' with rfl|⟨rfl,rfl⟩
  ·exact R _ _ _ (mode_K0 G hh' vs_ S) λ_=>S11 _
  ·exact R _ _ _ (mode_K1 G hh' vs_ S) S10
 |false=>
  obtain⟨st,f,mk,M,Ma,Me,_⟩:=mode_any (ck:=ck) (lo:=lo) G hh' vm hcl'
  obtain⟨tl,fl,ml,L,_,Le,L4⟩:=mode_any (ck:=0) (lo:=1) G hh' vl (.inr ⟨rfl,rfl⟩)
  exact rec_U G hkn hk hl hh vm vs_ vp vl sp_ sl_ sm_ me_ ha M Ma Me L Le (L4 rfl) idx
end
end
section
variable{h:Nat}{k j c a b lo hi wd:Int}{v x y z m:V}{s:Sta}{b1 b2 b3:Bool}(n:Nat)
theorem ok_b(o:Okv h 1 v):v=.int 0\/v=.int 1:=by
 cases o with
 |num r h1 h2=>
  cases r
  rename_i a
  have:a=0\/a=1:=by lia
  rcases this with rfl|rfl<;>simp
 |null q=>contradiction
noncomputable def rgT(k:Int):Option (Int×Int):=[(1,0,1),(2,0,65535),(3,-128,127),(4,0,255),(5,-32768,32767),(6,0,65535),(7,-2147483648,2147483647),(8,0,4294967295),(9,-9223372036854775808,9223372036854775807),(10,0,18446744073709551615),(40,0,127)].lookup k
theorem Rg.tab{lo hi:Int}(r:Rg k lo hi):rgT k=some (lo,hi):=by cases r<;>rfl
theorem rgT_n{k:Int}(q:k=12\/k=13\/k=14):rgT k=none:=by rcases q with rfl|rfl|rfl<;>rfl
theorem rg_int{lo hi:Int}(r:Rg k lo hi)(o:Okv h k v):∃a,v=.int a/\lo<=a/\a<=hi:=by
 have e:=r.tab
 clear r
 cases o with
 |num r' h1 h2=>
  have p:=Prod.mk.inj (Option.some.inj (r'.tab.symm.trans e))
  exact⟨_,rfl,p.1▸h1,p.2▸h2⟩
 |str _=>exact nomatch e
 |null q=>exact nomatch (rgT_n q).symm.trans e
theorem Num4.rg(N:Num4 k lo hi wd):Rg k lo hi:=by
 rcases N.all with⟨rfl,rfl,rfl,rfl⟩|⟨rfl,rfl,rfl,rfl⟩|⟨rfl,rfl,rfl,rfl⟩|⟨rfl,rfl,rfl,rfl⟩<;>constructor
theorem Okv.n4(N:Num4 k lo hi wd)(o:Okv h k v):∃a,v=.int a/\lo<=a/\a<=hi:=rg_int N.rg o
theorem StaOk.unk(o:StaOk h k s)(hk:k≠41)(e:s.isK=false):Unk (s.sv k):=by
 cases o with
 |K _=>exact Bool.noConfusion (e)
 |N q=>exact absurd q hk
 |U u _ _ _ _=>exact u
theorem StaOk.ok(o:StaOk h k (.K v)):Okv h k v:=by cases o;assumption
theorem isK_ex{s:Sta}(e:s.isK=true):∃v,s=.K v:=by cases s<;>first|exact⟨_,rfl⟩|exact Bool.noConfusion (e)
noncomputable def eK(i:Int):E:=.call 16 (.cons (.sub (.loc 0) (.int i)) .nil)
theorem fold_log_kn(hc:c=15\/c=16)(h1:∀n,run fns (n+1) 16 [x]=M.pure (.bool b1))(h2:∀n,run fns (n+1) 16 [y]=M.pure (.bool b2))(hb:(b1&&b2)=false):run fns (n+3) 34 [.tup [.int c,.int k,x,y]]=M.pure (.tup [.int c,.int k,x,y]):=by
 have g:evE (run fns (n+1)) [.val (.tup [.int c,.int k,x,y])] (.boo true (.cons (eK 2) (.cons (eK 3) .nil)))=M.pure (.bool false):=bo2 (h1 n) (h2 n) hb
 rcases hc with rfl|rfl
 ·exact v15 (oC ffold_logic (.y 0 (.bool false) .e) (λ_ ez=>ai g ez))
 ·exact v16 (oC ffold_logic (.y 0 (.bool false) .e) (λ_ ez=>ai g ez))
theorem fold_cond_kn(h1:∀n,run fns (n+1) 16 [x]=M.pure (.bool b1))(h2:∀n,run fns (n+1) 16 [y]=M.pure (.bool b2))(h3:∀n,run fns (n+1) 16 [z]=M.pure (.bool b3))(hb:(b1&&(b2&&b3))=false):
  run fns (n+3) 34 [.tup [.int 17,.int k,x,y,z]]=M.pure (.tup [.int 17,.int k,x,y,z]):=by
 have g:evE (run fns (n+1)) [.val (.tup [.int 17,.int k,x,y,z])] (.boo true (.cons (eK 2) (.cons (eK 3) (.cons (eK 4) .nil))))=M.pure (.bool false):=bo3 (h1 n) (h2 n) (h3 n) hb
 exact v17 (oC ffold_choice (.y 0 (.bool false) .e) (λ_ ez=>ai g ez))
noncomputable def f0:List Sta->Int:=λ_=>0
section
variable{code:Int}{sg:V}{nd:List V->Int->V}{cs vs:List V}{X:V->V->V->V->V}
theorem me1{X:V}(H:∀m r3 r4 r5 g1,run fns (m+3) 49 [rw6 code k sg r3 r4 r5,.lst [mn 1 v g1]]=M.pure X):∀ms,F2 (λv m=>∃g,m=mn 1 v g) [v] ms->∀m r3 r4 r5,run fns (m+3) 49 [rw6 code k sg r3 r4 r5,.lst ms]=M.pure X:=λms hm m r3 r4 r5=>by
 obtain⟨m1,rfl,g1,rfl⟩:=hm.i1
 exact H m r3 r4 r5 g1
theorem me2{X:V}(H:∀m r3 r4 r5 g1 g2,run fns (m+3) 49 [rw6 code k sg r3 r4 r5,.lst [mn 1 v g1,mn 1 x g2]]=M.pure X):∀ms,F2 (λv m=>∃g,m=mn 1 v g) [v,x] ms->∀m r3 r4 r5,run fns (m+3) 49 [rw6 code k sg r3 r4 r5,.lst ms]=M.pure X:=λms hm m r3 r4 r5=>by
 obtain⟨m1,m2,rfl,⟨g1,rfl⟩,g2,rfl⟩:=hm.i2
 exact H m r3 r4 r5 g1 g2
theorem ks_same(t:∀ck m,run fns (m+6) 23 [nd cs ck]=M.pure (.int 0))(d:∀ck m,run fns (m+7) 34 [nd cs ck]=M.pure (con k v))(o:Okv (h+1) k v)
  (me:∀ms,F2 (λv m=>∃g,m=mn 1 v g) vs ms->∀m r3 r4 r5,run fns (m+3) 49 [rw6 code k sg r3 r4 r5,.lst ms]=M.pure (mn 1 v 0)):KSx code k sg nd h cs vs:=
 ⟨.mk (r1:=some v) (r0:=some v) (f1:=0) (f0:=0) (mv:=v) (t 1) (d 1) (t 0) (d 0) (λ_ e=>Option.some.inj e▸o) (λ_ e=>Option.some.inj e▸o) (λ_=>rfl) (λm r3 r4 r5 ms hm=>me ms hm m r3 r4 r5) (.inl ⟨rfl,rfl,rfl,rfl⟩)⟩
theorem ks_none{f1 f2:Int}(t1:∀m,run fns (m+6) 23 [nd cs 1]=M.pure (.int f1))(d:∀m,run fns (m+7) 34 [nd cs 1]=M.pure (nd cs 1))(t0:∀m,run fns (m+6) 23 [nd cs 0]=M.pure (.int f2))(d0:∀m,run fns (m+7) 34 [nd cs 0]=M.pure (nd cs 0))(hf:f2=0\/f2=20)
  (me:∀ms,F2 (λv m=>∃g,m=mn 1 v g) vs ms->∀m r3 r4 r5,run fns (m+3) 49 [rw6 code k sg r3 r4 r5,.lst ms]=M.pure (mn 0 (.int a) f1))(tu:20<f1->∀m r3 r4 r5,run fns (m+2) 53 [rw6 code k sg r3 r4 r5,nd cs 0,.int a]=M.pure (.bool true)):KSx code k sg nd h cs vs:=
 ⟨.mk (r1:=none) (r0:=none) (mv:=.int a) t1 d t0 d0 (λ_ e=>nomatch e) (λ_ e=>nomatch e) (λq=>nomatch q) (λm r3 r4 r5 ms hm=>me ms hm m r3 r4 r5) (.inr ⟨rfl,hf,λ_=>rfl,⟨a,rfl⟩,tu⟩)⟩
theorem ks_wrap{f1 w:Int}(t1:∀m,run fns (m+6) 23 [nd cs 1]=M.pure (.int f1))(d:∀m,run fns (m+7) 34 [nd cs 1]=M.pure (nd cs 1))(t0:∀m,run fns (m+6) 23 [nd cs 0]=M.pure (.int 0))(d0:∀m,run fns (m+7) 34 [nd cs 0]=M.pure (con k (.int w)))(o:Okv (h+1) k (.int w))(hf:f1≠0)
  (me:∀ms,F2 (λv m=>∃g,m=mn 1 v g) vs ms->∀m r3 r4 r5,run fns (m+3) 49 [rw6 code k sg r3 r4 r5,.lst ms]=M.pure (mn 0 (.int a) f1))(tu:∀m r3 r4 r5,run fns (m+2) 53 [rw6 code k sg r3 r4 r5,con k (.int w),.int a]=M.pure (.bool true)):KSx code k sg nd h cs vs:=
 ⟨.mk (r1:=none) (r0:=some (.int w)) (mv:=.int a) t1 d t0 d0 (λ_ e=>nomatch e) (λ_ e=>Option.some.inj e▸o) (λ_=>rfl) (λm r3 r4 r5 ms hm=>me ms hm m r3 r4 r5) (.inr ⟨rfl,.inl rfl,λq=>absurd q hf,⟨a,rfl⟩,λ_=>tu⟩)⟩
end
structure Gen1(code k:Int)(sg:V)(f:V->Int->V)(j:Int):Prop where
 sh:Shape code k sg (nd1 f) 1
 c26:(code==26)=false
 ne:k≠14
 asc:∀h s ck m,StaOk h j s->run fns (m+2) 19 [f (s.sv j) ck,.int 0]=M.pure (f (s.sv j) (if s.isK=true then 1 else ck))
 unk:∀a mk,Unk (f a mk)
 ks:∀h v,Okv h j v->KSx code k sg (nd1 f) h [con j v] [v]
 us:∀h s mk,StaOk h j s->s.isK=false->(∀m,run fns (m+6) 23 [f (s.sv j) mk]=M.pure (.int 0))/\(∀m,run fns (m+7) 34 [f (s.sv j) mk]=M.pure (f (s.sv j) mk))
 mu:∀m r3 r4 r5 c v g,c=0\/c=2->run fns (m+3) 49 [rw6 code k sg r3 r4 r5,.lst [mn c v g]]=M.pure (mn 0 (.int 0) 0)
structure Gen2(code k:Int)(sg:V)(f:V->V->Int->V)(j l:Int)(fU:List Sta->Int):Prop where
 sh:Shape code k sg (nd2 f) 2
 c26:(code==26)=false
 ne:k≠14
 asc:∀h s s2 ck m,StaOk h j s->StaOk h l s2->run fns (m+2) 19 [f (s.sv j) (s2.sv l) ck,.int 0]=M.pure (f (s.sv j) (s2.sv l) (if(s.isK&&s2.isK)=true then 1 else ck))
 unk:∀a b mk,Unk (f a b mk)
 ks:∀h v w,Okv h j v->Okv h l w->KSx code k sg (nd2 f) h [con j v,con l w] [v,w]
 us:∀h s s2 mk,StaOk h j s->StaOk h l s2->(s.isK&&s2.isK)=false->(∀m,run fns (m+6) 23 [f (s.sv j) (s2.sv l) mk]=M.pure (.int (fU [s,s2])))/\(∀m,run fns (m+7) 34 [f (s.sv j) (s2.sv l) mk]=M.pure (f (s.sv j) (s2.sv l) mk))
 mu:∀h s s2 m1 m2,StaOk h j s->StaOk h l s2->MeanOk j s m1->MeanOk l s2 m2->(s.isK&&s2.isK)=false->∀m r3 r4 r5,run fns (m+3) 49 [rw6 code k sg r3 r4 r5,.lst [m1,m2]]=M.pure (mn 0 (.int 0) (fU [s,s2]))
 f20:∀sts,fU sts=0\/fU sts=20
 fsim:∀h sts sts',F2 (Sim h) sts sts'->fU sts=fU sts'
theorem mean_U(o:MeanOk k s m)(e:s.isK=false):∃c v g,(c=0\/c=2)/\m=mn c v g:=by
 cases o with
 |K _ _=>exact nomatch e
 |N g=>exact⟨_,_,_,.inr rfl,rfl⟩
 |U _ _ _=>exact⟨_,_,_,.inl rfl,rfl⟩
 |V _ _ _=>exact⟨_,_,_,.inl rfl,rfl⟩
theorem mean_Kg{v:V}(o:MeanOk k (.K v) m):∃g,m=mn 1 v g:=by cases o;exact⟨_,rfl⟩
theorem mean_any(o:MeanOk k s m):∃c v g,(c=0\/c=1\/c=2)/\m=mn c v g:=by
 cases o with
 |K _ _=>exact⟨_,_,_,.inr (.inl rfl),rfl⟩
 |N g=>exact⟨_,_,_,.inr (.inr rfl),rfl⟩
 |U _ _ _=>exact⟨_,_,_,.inl rfl,rfl⟩
 |V _ _ _=>exact⟨_,_,_,.inl rfl,rfl⟩
theorem Gen1.gen{code:Int}{sg:V}{f:V->Int->V}(G:Gen1 code k sg f j):Gen code k sg (nd1 f) [j] f0 where
 sh:=G.sh
 c26:=G.c26
 ne:=G.ne
 asc h sts ck m hv:=by
  obtain⟨s,rfl,o⟩:=hv.i1
  rw[show allK [s]=s.isK from Bool.and_true _]
  exact G.asc h s ck m o
 unk cs mk hl:=by obtain⟨a,rfl⟩:=ln1 hl;exact G.unk a mk
 ks h vs hv:=by obtain⟨v,rfl,o⟩:=hv.i1;exact G.ks h v o
 us h sts mk hv ha:=by
  obtain⟨s,rfl,o⟩:=hv.i1
  exact G.us h s mk o ((Bool.and_true _).symm.trans ha)
 mu h sts ms hv hm ha:=by
  refine cps λPP kk=>?_
  obtain⟨s,rfl,o⟩:=hv.i1
  obtain⟨m1,rfl,p⟩:=hm.i1
  obtain⟨c,v,g,q,rfl⟩:=mean_U p ((Bool.and_true _).symm.trans ha)
  refine kk ?_
  exactλm r3 r4 r5=>G.mu m r3 r4 r5 c v g q
 f20 _:=.inl rfl
 fsim _ _ _ _:=rfl
theorem allK2{s1 s2:Sta}:allK [s1,s2]=(s1.isK&&s2.isK):=congrArg (s1.isK&&·) (Bool.and_true _)
theorem Gen2.gen{code l:Int}{sg:V}{f:V->V->Int->V}{fU:List Sta->Int}(G:Gen2 code k sg f j l fU):Gen code k sg (nd2 f) [j,l] fU where
 sh:=G.sh
 c26:=G.c26
 ne:=G.ne
 asc h sts ck m hv:=by
  obtain⟨s,s2,rfl,o,o2⟩:=hv.i2
  rw[allK2]
  exact G.asc h s s2 ck m o o2
 unk cs mk hl:=by obtain⟨a,b,rfl⟩:=ln2 hl;exact G.unk a b mk
 ks h vs hv:=by obtain⟨v,w,rfl,o,o2⟩:=hv.i2;exact G.ks h v w o o2
 us h sts mk hv ha:=by
  obtain⟨s,s2,rfl,o,o2⟩:=hv.i2
  exact G.us h s s2 mk o o2 (allK2.symm.trans ha)
 mu h sts ms hv hm ha:=by
  refine cps λPP kk=>?_
  obtain⟨s,s2,rfl,o,o2⟩:=hv.i2
  obtain⟨m1,m2,rfl,p,p2⟩:=hm.i2
  refine kk ?_
  exact G.mu h s s2 m1 m2 o o2 p p2 (allK2.symm.trans ha)
 f20:=G.f20
 fsim:=G.fsim
theorem mu2{l:Int}{s1 s2:Sta}{m1 m2:V}{P:V->V->Prop}(h1:∀c v g c' v' g',c=0\/c=2->c'=0\/c'=1\/c'=2->P (mn c v g) (mn c' v' g'))(h2:∀v g c' v' g',c'=0\/c'=2->P (mn 1 v g) (mn c' v' g'))(o1:MeanOk j s1 m1)(o2:MeanOk l s2 m2)(ha:(s1.isK&&s2.isK)=false):P m1 m2:=by
 cases e:s1.isK with
 |false=>
  obtain⟨_,_,_,q,rfl⟩:=mean_U o1 e
  obtain⟨_,_,_,q2,rfl⟩:=mean_any o2
  exact h1 _ _ _ _ _ _ q q2
 |true=>
  obtain⟨v,rfl⟩:=isK_ex e
  obtain⟨g,rfl⟩:=mean_Kg o1
  obtain⟨_,_,_,q2,rfl⟩:=mean_U o2 ha
  exact h2 _ _ _ _ _ q2
theorem gen_cond(hk:k≠14)(sg:Str):Gen 17 k (.str sg) (nd3 (fCond k)) [1,k,k] f0 where
 sh:=shape_cond
 c26:=rfl
 ne:=hk
 asc h sts ck m hv:=by
  obtain⟨s1,s2,s3,rfl,o1,o2,o3⟩:=hv.i3
  exact asc_other (m+1) (c:=17) rfl rfl rfl
 unk cs mk hl:=by obtain⟨a,b,c,rfl⟩:=ln3 hl;exact unk_op (c:=17) rfl rfl
 ks h vs hv:=by
  obtain⟨v1,v2,v3,rfl,o1,o2,o3⟩:=hv.i3
  have hf:∀(ck:Int) m,run fns (m+6) 23 [.tup [.int 17,.int k,con 1 v1,con k v2,con k v3]]=M.pure (.int 0):=λ_ m=>fault_o (m+5) (c:=17) rfl rfl rfl
  rcases ok_b o1 with rfl|rfl
  ·refine ks_same hf (λ_ m=>fold_cond (m+4) rfl o2.ne15 o3.ne15) (o3.le (Nat.le_succ _)) λms hm=>?_
   obtain⟨m1,m2,m3,rfl,⟨g1,rfl⟩,⟨g2,rfl⟩,⟨g3,rfl⟩⟩:=hm.i3
   exactλm _ _ _=>meant_cond0 (m+2)
  ·refine ks_same hf (λ_ m=>fold_cond (m+4) rfl o2.ne15 o3.ne15) (o2.le (Nat.le_succ _)) λms hm=>?_
   obtain⟨m1,m2,m3,rfl,⟨g1,rfl⟩,⟨g2,rfl⟩,⟨g3,rfl⟩⟩:=hm.i3
   exactλm _ _ _=>meant_cond1 (m+2)
 us h sts mk hv ha:=by
  obtain⟨s1,s2,s3,rfl,o1,o2,o3⟩:=hv.i3
  exact⟨λm=>fault_o (m+5) (c:=17) rfl rfl rfl,λm=>fold_cond_kn (m+4) o1.kn o2.kn o3.kn ((congrArg (λx=>s1.isK&&(s2.isK&&x)) (Bool.and_true _)).symm.trans ha)⟩
 mu h sts ms hv hm ha m r3 r4 r5:=by
  obtain⟨s1,s2,s3,rfl,o1,o2,o3⟩:=hv.i3
  obtain⟨m1,m2,m3,rfl,p1,p2,p3⟩:=hm.i3
  obtain⟨c3,w3,g3,q3,rfl⟩:=mean_any p3
  cases e:s1.isK with
  |false=>
   refine cps λPP kk=>?_
   obtain⟨c1,w1,g1,q1,rfl⟩:=mean_U p1 e
   obtain⟨c2,w2,g2,q2,rfl⟩:=mean_any p2
   refine kk ?_
   exact meant_cond_U1 (m+2) q1 q2 q3
  |true=>
   obtain⟨v,rfl⟩:=isK_ex e
   obtain⟨g1,rfl⟩:=mean_Kg p1
   cases e2:s2.isK with
   |false=>
    refine cps λPP kk=>?_
    obtain⟨c2,w2,g2,q2,rfl⟩:=mean_U p2 e2
    refine kk ?_
    exact meant_cond_U2 (m+2) q2 q3
   |true=>
    obtain⟨v2,rfl⟩:=isK_ex e2
    obtain⟨g2,rfl⟩:=mean_Kg p2
    cases e3:s3.isK with
    |false=>
     refine cps λPP kk=>?_
     obtain⟨c3,w3,g3,q3,e⟩:=mean_U p3 e3
     refine kk ?_
     rw[e]
     exact meant_cond_U3 (m+2) q3
    |true=>exact Bool.noConfusion (e3.symm.trans ((Bool.and_true _).symm.trans ha))
 f20 _:=.inl rfl
 fsim _ _ _ _:=rfl
theorem gen_log(hc:c=15\/c=16)(sg:Str):Gen c 1 (.str sg) (nd2 (fLog c 1)) [1,1] f0:=Gen2.gen
 {sh:=shape_log hc,c26:=by rcases hc with rfl|rfl<;>rfl
  ne:=by exact nofun
  asc:=λh s s2 ck m o o2=>by
   rcases hc with rfl|rfl
   ·exact asc_other (m+1) (c:=15) rfl rfl rfl
   ·exact asc_other (m+1) (c:=16) rfl rfl rfl
  unk:=λa b mk=>by
   rcases hc with rfl|rfl
   ·exact unk_op (c:=15) rfl rfl
   ·exact unk_op (c:=16) rfl rfl
  ks:=λh v w o o2=>by
   have key:∀a:Int,a=0\/a=1->(∀m,run fns (m+7) 34 [.tup [.int c,.int 1,con 1 v,con 1 w]]=M.pure (con 1 (.int a)))->(∀m r3 r4 r5 g1 g2,run fns (m+3) 49 [rw6 c 1 (.str sg) r3 r4 r5,.lst [mn 1 v g1,mn 1 w g2]]=M.pure (mn 1 (.int a) 0))->KSx c 1 (.str sg) (nd2 (fLog c 1)) h [con 1 v,con 1 w] [v,w]:=λa ha hr hm=>by
    refine ks_same (λ_ m=>?_) (λ_=>hr) (?_:Okv _ _ (.int a)) (me2 hm)
    ·rcases hc with rfl|rfl
     ·exact fault_o (m+5) (c:=15) rfl rfl rfl
     ·exact fault_o (m+5) (c:=16) rfl rfl rfl
    ·rcases ha with rfl|rfl<;>exact .num .bool (by constructor) (by constructor)
   rcases hc with rfl|rfl<;>rcases ok_b o with rfl|rfl<;>rcases ok_b o2 with rfl|rfl
   ·exact key 0 (.inl rfl) (λm=>fold_and (m+4) rfl rfl) λm _ _ _ _ _=>meant_and (m+2)
   ·exact key 0 (.inl rfl) (λm=>fold_and (m+4) rfl rfl) λm _ _ _ _ _=>meant_and (m+2)
   ·exact key 0 (.inl rfl) (λm=>fold_and (m+4) rfl rfl) λm _ _ _ _ _=>meant_and (m+2)
   ·exact key 1 (.inr rfl) (λm=>fold_and (m+4) rfl rfl) λm _ _ _ _ _=>meant_and (m+2)
   ·exact key 0 (.inl rfl) (λm=>fold_or (m+4) rfl rfl) λm _ _ _ _ _=>meant_or (m+2)
   ·exact key 1 (.inr rfl) (λm=>fold_or (m+4) rfl rfl) λm _ _ _ _ _=>meant_or (m+2)
   ·exact key 1 (.inr rfl) (λm=>fold_or (m+4) rfl rfl) λm _ _ _ _ _=>meant_or (m+2)
   ·exact key 1 (.inr rfl) (λm=>fold_or (m+4) rfl rfl) λm _ _ _ _ _=>meant_or (m+2)
  us:=λh s s2 mk o o2 ha=>⟨λm=>by
   rcases hc with rfl|rfl
   ·exact fault_o (m+5) (c:=15) rfl rfl rfl
   ·exact fault_o (m+5) (c:=16) rfl rfl rfl,λm=>fold_log_kn (m+4) hc o.kn o2.kn ha⟩
  mu:=λh s s2 m1 m2 o o2 p p2 ha m r3 r4 r5=>mu2 (P:=λm1 m2=>run fns (m+3) 49 [rw6 c 1 (.str sg) r3 r4 r5,.lst [m1,m2]]=M.pure (mn 0 (.int 0) 0)) (λ_ _ _ _ _ _ q q2=>meant_log_U1 (m+2) hc q q2) (λ_ _ _ _ _ q=>meant_log_U2 (m+2) hc q) p p2 ha
  f20:=λ_=>.inl rfl,fsim:=λ_ _ _ _=>rfl}
theorem asc1{f:V->Int->V}{ck:Int}{m:Nat}(hj:j≠41)(o:StaOk h j s)(hK:∀v,Okv h j v->run fns (m+2) 19 [f (con j v) ck,.int 0]=M.pure (f (con j v) 1))(hU:∀S,Unk S->run fns (m+2) 19 [f S ck,.int 0]=M.pure (f S ck)):run fns (m+2) 19 [f (s.sv j) ck,.int 0]=M.pure (f (s.sv j) (if s.isK=true then 1 else ck)):=by
 cases o with
 |K o=>exact hK _ o
 |N q=>exact absurd q hj
 |U u _ _ _ _=>exact hU _ u
theorem gen_un{s:Str}(h14:k≠14)(h41:k≠41)(ks:∀h v,Okv h k v->KSx 13 k (.str s) (nd1 (fUn k s)) h [con k v] [v]):Gen 13 k (.str s) (nd1 (fUn k s)) [k] f0:=Gen1.gen
 {sh:=shape_un,c26:=rfl,ne:=h14
  asc:=λh t ck m o=>asc1 (f:=fUn k s) h41 o (λ_ o=>asc_un_K m o.ne15) λ_ u=>asc_un_U m u
  unk:=λa mk=>unk_op (c:=13) rfl rfl
  ks:=ks
  us:=λh s mk o e=>⟨λm=>faultu_U (m+2) (o.unk h41 e),λm=>foldu_U (m+3) (o.unk h41 e)⟩
  mu:=λm _ _ _ _ _ _ q=>meant_un_U (m+2) q}
theorem gen_not:Gen 13 1 (.str (Str.ofString "!")) (nd1 (fUn 1 (Str.ofString "!"))) [1] f0:=gen_un (by exact nofun) (by exact nofun) λh v o=>by
 obtain⟨a,rfl,a1,a2⟩:=rg_int .bool o
 exact ks_same (λ_ m=>faultu_not (m+2) rfl rfl) (λ_ m=>foldu_not (m+3) rfl rfl) (.num .bool (by lia) (by lia):Okv _ _ (.int (1-a))) (me1 λm _ _ _ _=>meant_not (m+2))
theorem mu012(q:c=0\/c=2):c=0\/c=1\/c=2:=q.imp id .inr
theorem gen_box:Gen 19 12 (.int 4) (nd1 (fCv 12 4)) [7] f0:=Gen1.gen
 {sh:=shape_cv rfl,c26:=rfl
  ne:=by exact nofun
  asc:=λh s ck m o=>asc_conv m rfl
  unk:=λa mk=>unk_conv rfl
  ks:=λh v o=>ks_none (λm=>fault_cv (m+5) rfl) (λm=>conv_box (m+3)) (λm=>fault_cv (m+5) rfl) (λm=>conv_box (m+3)) (.inl rfl) (me1 λm _ _ _ _=>meant_box (m+2) (.inr (.inl rfl))) (λq=>absurd q (by exact nofun))
  us:=λh s mk o e=>⟨λm=>fault_cv (m+5) rfl,λm=>conv_box (m+3)⟩
  mu:=λm _ _ _ _ _ _ q=>meant_box (m+2) (mu012 q)}
theorem gen_call{js:List Int}(hn:js.length<=2)(hk:k≠14)(sg:Str):Gen 8 k (.str sg) (ndCall k) js f0 where
 sh:=shape_call hn
 c26:=rfl
 ne:=hk
 asc h sts ck m hv:=asc_other (m+1) (c:=8) rfl rfl rfl
 unk cs mk hl:=unk_op (c:=8) rfl rfl
 ks h vs hv:=ks_none (λm=>fault_o (m+5) (c:=8) rfl rfl rfl) (λm=>fold_o (m+6) (c:=8) rfl rfl rfl rfl rfl rfl rfl rfl) (λm=>fault_o (m+5) (c:=8) rfl rfl rfl) (λm=>fold_o (m+6) (c:=8) rfl rfl rfl rfl rfl rfl rfl rfl) (.inl rfl) (λms hm m _ _ _=>meant_call (m+2)) (λq=>absurd q (by exact nofun))
 us h sts mk hv ha:=⟨λm=>fault_o (m+5) (c:=8) rfl rfl rfl,λm=>fold_o (m+6) (c:=8) rfl rfl rfl rfl rfl rfl rfl rfl⟩
 mu h sts ms hv hm ha:=λm r3 r4 r5=>meant_call (m+2)
 f20 _:=.inl rfl
 fsim _ _ _ _:=rfl
end
section
variable{h:Nat}{k j c a b lo hi wd jl jh:Int}{v x y z m:V}{s:Str}(n:Nat)
theorem in_T(h1:lo<=a)(h2:a<=hi):(decide (lo<=a)&&decide (a<=hi))=true:=by rw[decide_eq_true h1,decide_eq_true h2];rfl
theorem in_F(h:¬(lo<=a/\a<=hi)):(decide (lo<=a)&&decide (a<=hi))=false:=by
 by_cases h1:lo<=a
 ·have h2:¬a<=hi:=λq=>h ⟨h1,q⟩
  rw[decide_eq_false h2,Bool.and_false]
 ·rw[decide_eq_false h1,Bool.false_and]
theorem Num4.k10(N:Num4 k lo hi wd):2<=k/\k<=10/\k≠14/\k≠41/\(k==1)=false/\(k==40)=false:=by
 rcases N.all with⟨rfl,_⟩|⟨rfl,_⟩|⟨rfl,_⟩|⟨rfl,_⟩<;>decide
theorem Num4.n1(N:Num4 k lo hi wd):k≠1:=λe=>absurd (e▸N.k10.1) (by decide)
theorem Num4.ge(N:Num4 k lo hi wd):2<=k:=N.k10.1
theorem Num4.le(N:Num4 k lo hi wd):k<=10:=N.k10.2.1
theorem Num4.n14(N:Num4 k lo hi wd):k≠14:=N.k10.2.2.1
theorem Num4.n41(N:Num4 k lo hi wd):k≠41:=N.k10.2.2.2.1
theorem beqF{a b:String}(h:decide (a=b)=false):(Str.ofString a==Str.ofString b)=false:=ofs_beq.trans h
theorem un_in(N:Num4 k lo hi wd)(hs:(s==Str.ofString "!")=false)(hp:∀c m,run fns (m+4) 14 [.str s,.int k,.int a,.int c]=M.pure (.tup [.int b,.int 0]))(b1:lo<=b)(b2:b<=hi)
  (me:∀m r3 r4 r5 g1,run fns (m+3) 49 [rw6 13 k (.str s) r3 r4 r5,.lst [mn 1 (.int a) g1]]=M.pure (mn 1 (.int b) 0)):KSx 13 k (.str s) (nd1 (fUn k s)) h [con k (.int a)] [.int a]:=
 have n15:=N.rg.ne15
 ks_same (λck m=>faultu_s m n15.1 n15.2 hs N.ge N.le (hp ck)) (λck m=>foldu_s (m+1) n15.1 n15.2 hs N.ge N.le (hp ck)) (.num N.rg b1 b2) (me1 me)
theorem gen_inv(N:Num4 k lo hi wd):Gen 13 k (.str (Str.ofString "~")) (nd1 (fUn k (Str.ofString "~"))) [k] f0:=gen_un N.n14 N.n41 λh v o=>by
 obtain⟨a,rfl,a1,a2⟩:=o.n4 N
 exact un_in N (beqF rfl) (λc m=>inv_ok N a1 a2▸fu_inv (m+1) (c:=c) (a:=a) N.rng N.pos) (by lia) (by lia) λm _ _ _ _=>meant_inv (m+1) N
theorem gen_neg(N:Num4 k lo hi wd):Gen 13 k (.str (Str.ofString "-")) (nd1 (fUn k (Str.ofString "-"))) [k] f0:=gen_un N.n14 N.n41 λh v o=>by
 obtain⟨a,rfl,a1,a2⟩:=o.n4 N
 have ht:=λm r3 r4 r5 g1=>meant_neg (m+1) (r3:=r3) (r4:=r4) (r5:=r5) (a:=a) (f:=g1) N
 by_cases hr:lo<=-a/\-a<=hi
 ·rw[if_pos (in_T hr.1 hr.2)]at ht
  exact un_in N (beqF rfl) (λc m=>fu_neg m (whole_in m N.rng (in_T hr.1 hr.2))) hr.1 hr.2 ht
 ·have hF:=in_F hr
  have n15:=N.rg.ne15
  rw[if_neg (hF▸Bool.false_ne_true)]at ht
  obtain⟨w1,w2,w3⟩:=wrap_ok N.rg (-a)
  exact ks_wrap (λm=>faultu_s m n15.1 n15.2 (beqF rfl) N.ge N.le λm=>fu_neg m (whole_ck m N.rng hF)) (λm=>foldu_n (m+1) n15.1 n15.2 (beqF rfl) N.ge N.le λm=>fu_neg m (whole_ck m N.rng hF)) (λm=>faultu_s m n15.1 n15.2 (beqF rfl) N.ge N.le λm=>fu_neg m (whole_un m N.rng hF N.pos)) (λm=>foldu_s (m+1) n15.1 n15.2 (beqF rfl) N.ge N.le λm=>fu_neg m (whole_un m N.rng hF N.pos))
   (.num N.rg w1 w2) (by exact nofun) (me1 ht) λm r3 r4 r5=>turned_n m (by rw[cin_s2,ofs_beq,ofs_beq];rfl) N.span N.pos w1 w2 w3
theorem Rg.n14(R:Rg k lo hi):k≠14:=by cases R<;>exact nofun
theorem Rg.n41(R:Rg k lo hi):k≠41:=by cases R<;>exact nofun
theorem gen_num(J:Rg j jl jh)(R:Rg k lo hi)(hj:j≠1)(hk:k≠1):Gen 19 k (.int 1) (nd1 (fNum k)) [j] f0:=Gen1.gen
 {sh:=shape_num,c26:=rfl,ne:=R.n14
  asc:=λh s ck m o=>asc1 (f:=fNum k) J.n41 o (λ_ o=>asc_num_K m o.ne15) λ_ u=>asc_num_U m u
  unk:=λa mk=>unk_conv rfl
  us:=λh s mk o e=>⟨λm=>fault_num_U (m+3) (o.unk J.n41 e),λm=>conv_num_U (m+3) (o.unk J.n41 e)⟩
  mu:=λm _ _ _ _ _ _ q=>meant_num_U (m+2) q
  ks:=λh v o=>by
   obtain⟨a,rfl,a1,a2⟩:=rg_int J o
   have n15:=J.ne15
   by_cases hE:k=40
   ·subst hE
    cases R
    have ht:=λm r3 r4 r5 g1=>meant_E (m+1) (r3:=r3) (r4:=r4) (r5:=r5) (a:=a) (f:=g1)
    have hf:∀(ck:Int) m,run fns (m+6) 23 [fNum 40 (con j (.int a)) ck]=M.pure (.int 0):=λck m=>fault_num_F (m+3) n15.1 n15.2 (by decide)
    by_cases hr:0<=a/\a<=127
    ·rw[if_pos (in_T hr.1 hr.2)]at ht
     exact ks_same hf (λ_ m=>conv_E_in (m+3) n15.1 n15.2 (by decide) hr.1 hr.2) (.num .e hr.1 hr.2) (me1 ht)
    ·rw[if_neg (in_F hr▸Bool.false_ne_true)]at ht
     exact ks_none (hf 1) (λm=>conv_E_out (m+3) n15.1 n15.2 (by decide) hr) (hf 0) (λm=>conv_E_out (m+3) n15.1 n15.2 (by decide) hr) (.inl rfl) (me1 ht) (by exact nofun)
   ·have k1:2<=k/\k<=10:=by cases R<;>first|(exact absurd rfl hk)|(exact absurd rfl hE)|exact⟨by decide,by decide⟩
    have hR:=R.rng k1.1 k1.2
    have ht:=λm r3 r4 r5 g1=>meant_num (m+1) (r3:=r3) (r4:=r4) (r5:=r5) (a:=a) (f:=g1) (R.span k1.1 k1.2) (beq_false_of_ne hE)
    by_cases hr:lo<=a/\a<=hi
    ·have hT:=in_T hr.1 hr.2
     rw[if_pos hT]at ht
     exact ks_same (λck m=>fault_num_K (m+1) n15.1 n15.2 k1.1 k1.2 λm=>fc_some m (whole_in m hR hT)) (λck m=>conv_num_s (m+1) n15.1 n15.2 k1.1 k1.2 λm=>fc_some m (whole_in m hR hT)) (.num R hr.1 hr.2) (me1 ht)
    ·have hF:=in_F hr
     rw[if_neg (hF▸Bool.false_ne_true)]at ht
     obtain⟨w1,w2,w3⟩:=wrap_ok R a
     exact ks_wrap (λm=>fault_num_K (m+1) n15.1 n15.2 k1.1 k1.2 λm=>fc_none m (whole_ck m hR hF)) (λm=>conv_num_n (m+1) n15.1 n15.2 k1.1 k1.2 λm=>fc_none m (whole_ck m hR hF)) (λm=>fault_num_K (m+1) n15.1 n15.2 k1.1 k1.2 λm=>fc_some m (whole_un m hR hF R.pos)) (λm=>conv_num_s (m+1) n15.1 n15.2 k1.1 k1.2 λm=>fc_some m (whole_un m hR hF R.pos))
      (.num R w1 w2) (by exact nofun) (me1 ht) λm r3 r4 r5=>turned_n m rfl (R.span k1.1 k1.2) R.pos w1 w2 w3}
end
section
variable{k a b lo hi wd x y:Int}{w:Nat}
theorem lt_pw(h0:0<=x)(h:x<2^w):x.toNat<2^w:=by
 have:((2:Int)^w)=((2^w:Nat):Int):=by push_cast;rfl
 lia
theorem or_pp(hx:0<=x)(hy:0<=y)(hx2:x<2^w)(hy2:y<2^w):0<=Builtin.bitOr x y/\Builtin.bitOr x y<2^w:=by
 have e:Builtin.bitOr x y=((x.toNat|||y.toNat:Nat):Int):=by
  have h1:¬0<=Builtin.bitNot x:=by unfold Builtin.bitNot;lia
  have h2:¬0<=Builtin.bitNot y:=by unfold Builtin.bitNot;lia
  unfold Builtin.bitOr
  rw[bitAnd_nn h1 h2]
  have nn:∀z,Builtin.bitNot (Builtin.bitNot z)=z:=λz=>by unfold Builtin.bitNot;lia
  rw[nn,nn,nn]
 have:=Nat.or_lt_two_pow (lt_pw hx hx2) (lt_pw hy hy2)
 have h2:((2:Int)^w)=((2^w:Nat):Int):=by push_cast;rfl
 rw[e,h2]
 omega
theorem and_pp(hx:0<=x)(hy:0<=y):0<=Builtin.bitAnd x y/\Builtin.bitAnd x y<=x/\Builtin.bitAnd x y<=y:=by
 have h1:=bitAnd_range x hy
 have h2:=bitAnd_range y hx
 rw[bitAnd_comm]at h2
 exact⟨h1.1,h2.2,h1.2⟩
theorem xor_pp(hx:0<=x)(hy:0<=y)(hx2:x<2^w)(hy2:y<2^w):0<=Builtin.bitXor x y/\Builtin.bitXor x y<2^w:=by
 have h1:=or_pp hx hy hx2 hy2
 have h2:=and_pp hx hy
 have h3:=bitXor_and x y
 have h4:=bitOr_and x y
 omega
theorem and_s(hx:-2^w<=x)(hx2:x<2^w)(hy:-2^w<=y)(hy2:y<2^w):-2^w<=Builtin.bitAnd x y/\Builtin.bitAnd x y<2^w:=by
 have hp:(0:Int)<2^w:=Int.pow_pos (by constructor)
 by_cases h1:0<=y
 ·have:=bitAnd_range x h1;omega
 ·by_cases h2:0<=x
  ·have:=bitAnd_range y h2;rw[bitAnd_comm]at this;omega
  ·rw[bitAnd_nn h2 h1]
   have e1:Builtin.bitNot x=-x-1:=by unfold Builtin.bitNot;rfl
   have e2:Builtin.bitNot y=-y-1:=by unfold Builtin.bitNot;rfl
   have:=Nat.or_lt_two_pow (lt_pw (w:=w) (x:=-x-1) (by lia) (by lia)) (lt_pw (w:=w) (x:=-y-1) (by lia) (by lia))
   rw[e1,e2]
   have h2:((2:Int)^w)=((2^w:Nat):Int):=by push_cast;rfl
   unfold Builtin.bitNot
   omega
theorem or_s(hx:-2^w<=x)(hx2:x<2^w)(hy:-2^w<=y)(hy2:y<2^w):-2^w<=Builtin.bitOr x y/\Builtin.bitOr x y<2^w:=by
 have e1:Builtin.bitNot x=-x-1:=by unfold Builtin.bitNot;rfl
 have e2:Builtin.bitNot y=-y-1:=by unfold Builtin.bitNot;rfl
 have:=and_s (w:=w) (x:=-x-1) (y:=-y-1) (by lia) (by lia) (by lia) (by lia)
 unfold Builtin.bitOr
 rw[e1,e2]
 unfold Builtin.bitNot
 omega
theorem xor_s(hx:-2^w<=x)(hx2:x<2^w)(hy:-2^w<=y)(hy2:y<2^w):-2^w<=Builtin.bitXor x y/\Builtin.bitXor x y<2^w:=by
 have nn:∀z,Builtin.bitNot (-z-1)=z:=λz=>by unfold Builtin.bitNot;lia
 have h0:=bitXor_and x y
 by_cases h1:0<=y<;>by_cases h2:0<=x
 ·have:=xor_pp h2 h1 hx2 hy2;omega
 ·have p:=xor_pp (w:=w) (x:=y) (y:=-x-1) h1 (by lia) hy2 (by lia)
  have q:=bitAnd_not y (-x-1)
  rw[nn]at q
  have r:=bitXor_and y (-x-1)
  have c:=bitAnd_comm x y
  omega
 ·have p:=xor_pp (w:=w) (x:=x) (y:=-y-1) h2 (by lia) hx2 (by lia)
  have q:=bitAnd_not x (-y-1)
  rw[nn]at q
  have r:=bitXor_and x (-y-1)
  omega
 ·have p:=xor_pp (w:=w) (x:=-x-1) (y:=-y-1) (by lia) (by lia) (by lia) (by lia)
  have q:=bitAnd_not x (-y-1)
  rw[nn]at q
  have q2:=bitAnd_not (-y-1) (-x-1)
  rw[nn]at q2
  have r:=bitXor_and (-x-1) (-y-1)
  have c1:=bitAnd_comm (-y-1) x
  have c2:=bitAnd_comm (-y-1) (-x-1)
  omega
theorem bits_ok(N:Num4 k lo hi wd)(a1:lo<=a)(a2:a<=hi)(b1:lo<=b)(b2:b<=hi):
  (lo<=Builtin.bitAnd a b/\Builtin.bitAnd a b<=hi)/\(lo<=Builtin.bitOr a b/\Builtin.bitOr a b<=hi)/\(lo<=Builtin.bitXor a b/\Builtin.bitXor a b<=hi):=by
 rcases N.all with⟨_,rfl,rfl,_⟩|⟨_,rfl,rfl,_⟩|⟨_,rfl,rfl,_⟩|⟨_,rfl,rfl,_⟩
 ·have h1:=and_s (w:=31) (x:=a) (y:=b) (by simp;omega) (by simp;exact Int.lt_of_le_of_lt (by assumption) (by constructor)) (by simp;omega) (by simp;exact Int.lt_of_le_of_lt (by assumption) (by constructor))
  have h2:=or_s (w:=31) (x:=a) (y:=b) (by simp;omega) (by simp;exact Int.lt_of_le_of_lt (by assumption) (by constructor)) (by simp;omega) (by simp;exact Int.lt_of_le_of_lt (by assumption) (by constructor))
  have h3:=xor_s (w:=31) (x:=a) (y:=b) (by simp;omega) (by simp;exact Int.lt_of_le_of_lt (by assumption) (by constructor)) (by simp;omega) (by simp;exact Int.lt_of_le_of_lt (by assumption) (by constructor))
  simp at h1 h2 h3
  omega
 ·have h1:=and_pp a1 b1
  have h2:=or_pp (w:=32) a1 b1 (by simp;exact Int.lt_of_le_of_lt (by assumption) (by constructor)) (by simp;exact Int.lt_of_le_of_lt (by assumption) (by constructor))
  have h3:=xor_pp (w:=32) a1 b1 (by simp;exact Int.lt_of_le_of_lt (by assumption) (by constructor)) (by simp;exact Int.lt_of_le_of_lt (by assumption) (by constructor))
  simp at h2 h3
  lia
 ·have h1:=and_s (w:=63) (x:=a) (y:=b) (by simp;omega) (by simp;exact Int.lt_of_le_of_lt (by assumption) (by constructor)) (by simp;omega) (by simp;exact Int.lt_of_le_of_lt (by assumption) (by constructor))
  have h2:=or_s (w:=63) (x:=a) (y:=b) (by simp;omega) (by simp;exact Int.lt_of_le_of_lt (by assumption) (by constructor)) (by simp;omega) (by simp;exact Int.lt_of_le_of_lt (by assumption) (by constructor))
  have h3:=xor_s (w:=63) (x:=a) (y:=b) (by simp;omega) (by simp;exact Int.lt_of_le_of_lt (by assumption) (by constructor)) (by simp;omega) (by simp;exact Int.lt_of_le_of_lt (by assumption) (by constructor))
  simp at h1 h2 h3
  omega
 ·have h1:=and_pp a1 b1
  have h2:=or_pp (w:=64) a1 b1 (by simp;exact Int.lt_of_le_of_lt (by assumption) (by constructor)) (by simp;exact Int.lt_of_le_of_lt (by assumption) (by constructor))
  have h3:=xor_pp (w:=64) a1 b1 (by simp;exact Int.lt_of_le_of_lt (by assumption) (by constructor)) (by simp;exact Int.lt_of_le_of_lt (by assumption) (by constructor))
  simp at h2 h3
  lia
theorem shr_ok(N:Num4 k lo hi wd)(a1:lo<=a)(a2:a<=hi)(m:Nat):lo<=a.fdiv (2^m)/\a.fdiv (2^m)<=hi:=by
 have hp:(0:Int)<2^m:=Int.pow_pos (by constructor)
 rw[Int.fdiv_eq_ediv_of_nonneg a (Int.le_of_lt hp)]
 have hl:lo<=0/\0<=hi:=by rcases N.all with⟨_,rfl,rfl,_⟩|⟨_,rfl,rfl,_⟩|⟨_,rfl,rfl,_⟩|⟨_,rfl,rfl,_⟩<;>decide
 rcases Int.lt_or_le a 0 with ha|ha
 ·have h1:a/2^m<0:=Int.ediv_neg_of_neg_of_pos ha hp
  have h2:a<=a/2^m:=by
   rw[Int.le_ediv_iff_mul_le hp]
   have:a*2^m<=a*1:=Int.mul_le_mul_of_nonpos_left (Int.le_of_lt (by assumption)) (by assumption)
   lia
  lia
 ·have h1:0<=a/2^m:=Int.ediv_nonneg ha (Int.le_of_lt hp)
  have h2:a/2^m<=a:=Int.ediv_le_self _ ha
  lia
end
structure NoDiv(s:Str):Prop where
 a:(s==Str.ofString "/")=false
 b:(s==Str.ofString "%")=false
 c:(Str.ofString "/"==s)=false
 d:(Str.ofString "%"==s)=false
theorem noDiv{t:String}(h:(decide (t="/")||decide (t="%"))=false):NoDiv (Str.ofString t):=by
 obtain⟨h1,h2⟩:=Bool.or_eq_false_iff.mp h
 have e1:=ofs_beq.trans h1
 have e2:=ofs_beq.trans h2
 exact⟨e1,e2,(BEq.comm).trans e1,(BEq.comm).trans e2⟩
section
variable{h:Nat}{k j l c a b lo hi wd jl jh:Int}{v x y z m v1 v2:V}{s:Str}{t:Sta}(n:Nat)
theorem asc_bin{s1 s2:Sta}{ck:Int}{m:Nat}(hj:j≠41)(hl:l≠41)(o1:StaOk h j s1)(o2:StaOk h l s2):run fns (m+2) 19 [fBin k s (s1.sv j) (s2.sv l) ck,.int 0]=M.pure (fBin k s (s1.sv j) (s2.sv l) (if(s1.isK&&s2.isK)=true then 1 else ck)):=by
 cases o1 with
 |K o1=>cases o2 with
  |K o2=>exact asc_bin_K m o1.ne15 o2.ne15
  |N q=>exact absurd q hl
  |U u _ _ _ _=>exact asc_bin_U2 m o1.ne15 u
 |N q=>exact absurd q hj
 |U u _ _ _ _=>exact asc_bin_U1 m u
theorem bk_no{s1 s2:Sta}{ck:Int}(hj:j≠41)(hl:l≠41)(o1:StaOk h j s1)(o2:StaOk h l s2)(ha:(s1.isK&&s2.isK)=false)(m:Nat):run fns (m+3) 20 [fBin k s (s1.sv j) (s2.sv l) ck]=M.pure (.bool false):=by
 cases o1 with
 |K o1=>exact bk_U2 m o1.ne15 (o2.unk hl ha)
 |N q=>exact absurd q hj
 |U u _ _ _ _=>exact bk_U1 m u
theorem zr_ND{x y:V}{ck:Int}(D:NoDiv s)(m:Nat):run fns (m+2) 21 [fBin k s x y ck]=M.pure (.bool false):=zr_no m D.a D.b
theorem gen_bin(D:NoDiv s)(hk:k≠14)(hj:j≠41)(hl:l≠41)(hks:∀h v w,Okv h j v->Okv h l w->KSx 14 k (.str s) (nd2 (fBin k s)) h [con j v,con l w] [v,w]):
  Gen 14 k (.str s) (nd2 (fBin k s)) [j,l] f0:=Gen2.gen
 {sh:=shape_bin,c26:=rfl,ne:=hk
  asc:=λh s s2 ck m o o2=>asc_bin hj hl o o2
  unk:=λa b mk=>unk_op (c:=14) rfl rfl
  ks:=hks
  us:=λh s s2 mk o o2 ha=>⟨λm=>faultb_u (m+2) (zr_ND D) (bk_no hj hl o o2 ha),λm=>foldb_u (m+2) (bk_no hj hl o o2 ha)⟩
  mu:=λh s1 s2 m1 m2 o o2 p p2 ha m r3 r4 r5=>mu2 (P:=λm1 m2=>run fns (m+3) 49 [rw6 14 k (.str s) r3 r4 r5,.lst [m1,m2]]=M.pure (mn 0 (.int 0) 0)) (λ_ _ _ _ _ _ q q2=>meant_bin_U1 m D.c D.d q q2) (λ_ _ _ _ _ q=>meant_bin_U2 m D.c D.d q) p p2 ha
  f20:=λ_=>.inl rfl,fsim:=λ_ _ _ _=>rfl}
theorem ks_bin(D:NoDiv s)(hb:∀ck m,run fns (m+3) 20 [fBin k s (con j v1) (con l v2) ck]=M.pure (.bool true))(hr:∀ck m,run fns (m+4) 13 [.str s,.int j,v1,v2,.int ck]=M.pure (.tup [.int b,.int 0]))(ho:Okv (h+1) k (.int b))
  (ht:∀m,run fns (m+2) 48 [.str s,.int k,v1,v2]=M.pure (.tup [.int b,.int 0])):KSx 14 k (.str s) (nd2 (fBin k s)) h [con j v1,con l v2] [v1,v2]:=
 ks_same (λck m=>faultb_k m (zr_ND D) (hb ck) λm=>br_ m (hr ck)) (λck m=>foldb_s m (hb ck) λm=>br_ m (hr ck)) ho (me2 λm _ _ _ _ _=>meant_bin m D.c D.d ht)
theorem ks_ov(D:NoDiv s)(R:Rg k lo hi)(k1:2<=k)(k2:k<=10)(hb:∀ck m,run fns (m+3) 20 [fBin k s (con j v1) (con l v2) ck]=M.pure (.bool true))(hr1:∀m,run fns (m+4) 13 [.str s,.int j,v1,v2,.int 1]=M.pure (.tup [.none,.int 220]))(hr0:∀m,run fns (m+4) 13 [.str s,.int j,v1,v2,.int 0]=M.pure (.tup [.int (lo+(a-lo).fmod (hi-lo+1)),.int 0]))
  (ht:∀m,run fns (m+2) 48 [.str s,.int k,v1,v2]=M.pure (.tup [.int a,.int 220])):KSx 14 k (.str s) (nd2 (fBin k s)) h [con j v1,con l v2] [v1,v2]:=by
 obtain⟨w1,w2,w3⟩:=wrap_ok R a
 exact ks_wrap (λm=>faultb_k m (zr_ND D) (hb 1) λm=>br_ m hr1) (λm=>foldb_n m (hb 1) λm=>br_ m hr1) (λm=>faultb_k m (zr_ND D) (hb 0) λm=>br_ m hr0) (λm=>foldb_s m (hb 0) λm=>br_ m hr0) (.num R w1 w2) (by exact nofun) (me2 λm _ _ _ _ _=>meant_bin m D.c D.d ht)
  λm r3 r4 r5=>turned_n m (by rw[cin_s2,D.c,D.d];rfl) (R.span k1 k2) R.pos w1 w2 w3
theorem b2i_ok(t:Bool):Okv h 1 (.int (b2i t)):=by cases t<;>exact .num .bool (by constructor) (by constructor)
theorem ok_cmp{g:Nat}(o1:Okv h j v1)(o2:Okv g l v2):cmpV .Eq v1 v2=some (v1.beq v2)/\cmpV .NotEq v1 v2=some (!v1.beq v2):=by
 have p1:=o1.pd (d:=0)
 have hc:(v1.plain&&v2.plain)=true/\min v1.depth v2.depth<=500:=⟨Bool.and_eq_true_iff.mpr ⟨p1.1,(o2.pd (d:=0)).1⟩,Nat.le_trans (Nat.min_le_left _ _) (Nat.le_trans p1.2 (Nat.zero_le _))⟩
 exact⟨if_pos hc,if_pos hc⟩
theorem gen_eq(hj:j≠41):Gen 14 1 (.str (Str.ofString "==")) (nd2 (fBin 1 (Str.ofString "=="))) [j,j] f0:=gen_bin (noDiv rfl) (nofun) hj hj λh v w o1 o2=>
 have hc:=ok_cmp o1 o2
 ks_bin (noDiv rfl) (λck m=>bk_e m o1.ne15 o2.ne15) (λck m=>fb_eq (m+2) hc.1) (b2i_ok _) (λm=>two_eq (m+1) hc.1)
theorem gen_ne(hj:j≠41):Gen 14 1 (.str (Str.ofString "!=")) (nd2 (fBin 1 (Str.ofString "!="))) [j,j] f0:=gen_bin (noDiv rfl) (nofun) hj hj λh v w o1 o2=>
 have hc:=ok_cmp o1 o2
 ks_bin (noDiv rfl) (λck m=>bk_n m o1.ne15 o2.ne15) (λck m=>fb_ne (m+2) hc.2) (b2i_ok _) (λm=>two_ne (m+1) hc.1)
theorem bk_N(N:Num4 j lo hi wd)(L:Num4 l jl jh c)(he:(s==Str.ofString "==")=false)(hn:(s==Str.ofString "!=")=false)(ck:Int)(m:Nat):run fns (m+3) 20 [fBin k s (con j (.int a)) (con l (.int b)) ck]=M.pure (.bool true):=
 bk_k m N.rg.ne15.1 N.rg.ne15.2 L.rg.ne15.1 L.rg.ne15.2 he hn N.k10.2.2.2.2.1 N.ge N.le
theorem gen_cmp(N:Num4 j lo hi wd)(D:NoDiv s)(he:(s==Str.ofString "==")=false)(hn:(s==Str.ofString "!=")=false){t:Int->Int->Bool}(h1:∀a b ck m,run fns (m+4) 13 [.str s,.int j,.int a,.int b,.int ck]=M.pure (.tup [.int (b2i (t a b)),.int 0]))(h2:∀a b m,run fns (m+2) 48 [.str s,.int 1,.int a,.int b]=M.pure (.tup [.int (b2i (t a b)),.int 0])):
  Gen 14 1 (.str s) (nd2 (fBin 1 s)) [j,j] f0:=gen_bin D (nofun) N.n41 N.n41 λh v w o1 o2=>by
 obtain⟨a,rfl,_⟩:=o1.n4 N
 obtain⟨b,rfl,_⟩:=o2.n4 N
 exact ks_bin D (bk_N N N he hn) (h1 a b) (b2i_ok _) (h2 a b)
theorem gen_lt(N:Num4 j lo hi wd):Gen 14 1 (.str (Str.ofString "<")) (nd2 (fBin 1 (Str.ofString "<"))) [j,j] f0:=gen_cmp N (noDiv rfl) (beqF rfl) (beqF rfl) (λ_ _ _ m=>fb_lt (m+2)) (λ_ _ m=>two_lt (m+1))
theorem gen_gt(N:Num4 j lo hi wd):Gen 14 1 (.str (Str.ofString ">")) (nd2 (fBin 1 (Str.ofString ">"))) [j,j] f0:=gen_cmp N (noDiv rfl) (beqF rfl) (beqF rfl) (λ_ _ _ m=>fb_gt (m+2)) (λ_ _ m=>two_gt (m+1))
theorem le_not(a b:Int):decide (a<=b)=!decide (b<a):=by
 by_cases q:b<a
 ·rw[decide_eq_true q];exact decide_eq_false (Int.not_le.mpr q)
 ·rw[decide_eq_false q];exact decide_eq_true (Int.not_lt.mp q)
theorem gen_le(N:Num4 j lo hi wd):Gen 14 1 (.str (Str.ofString "<=")) (nd2 (fBin 1 (Str.ofString "<="))) [j,j] f0:=gen_cmp N (noDiv rfl) (beqF rfl) (beqF rfl) (λ_ _ _ m=>fb_le (m+2)) (λa b m=>le_not a b▸two_le (m+1))
theorem gen_ge(N:Num4 j lo hi wd):Gen 14 1 (.str (Str.ofString ">=")) (nd2 (fBin 1 (Str.ofString ">="))) [j,j] f0:=gen_cmp N (noDiv rfl) (beqF rfl) (beqF rfl) (λ_ _ _ m=>fb_ge (m+2)) (λa b m=>le_not b a▸two_ge (m+1))
theorem gen_tr(D:NoDiv s)(he:(s==Str.ofString "==")=false)(hn:(s==Str.ofString "!=")=false){f:Int->Int->Int}(h1:∀a b ck m,run fns (m+4) 13 [.str s,.int 1,.int a,.int b,.int ck]=M.pure (.tup [.int (f a b),.int 0]))(h2:∀a b,(Builtin.bitAnd a b).natAbs<big->∀m,run fns (m+2) 48 [.str s,.int 1,.int a,.int b]=M.pure (.tup [.int (f a b),.int 0]))
  (h3:∀a b:Int,a=0\/a=1->b=0\/b=1->0<=f a b/\f a b<=1):Gen 14 1 (.str s) (nd2 (fBin 1 s)) [1,1] f0:=gen_bin D (nofun) (nofun) (nofun) λh v w o1 o2=>by
 have key:∀a b,a=0\/a=1->b=0\/b=1->(Builtin.bitAnd a b).natAbs<big->KSx 14 1 (.str s) (nd2 (fBin 1 s)) h [con 1 (.int a),con 1 (.int b)] [.int a,.int b]:=
  λa b q q2 hs=>ks_bin D (λck m=>bk_b m rfl rfl he hn) (h1 a b) (.num .bool (h3 a b q q2).1 (h3 a b q q2).2) (h2 a b hs)
 rcases ok_b o1 with rfl|rfl<;>rcases ok_b o2 with rfl|rfl
 ·exact key 0 0 (.inl rfl) (.inl rfl) (by decide)
 ·exact key 0 1 (.inl rfl) (.inr rfl) (by decide)
 ·exact key 1 0 (.inr rfl) (.inl rfl) (by decide)
 ·exact key 1 1 (.inr rfl) (.inr rfl) (by decide)
theorem gen_band:Gen 14 1 (.str (Str.ofString "&")) (nd2 (fBin 1 (Str.ofString "&"))) [1,1] f0:=gen_tr (noDiv rfl) (beqF rfl) (beqF rfl) (λ_ _ _ m=>fb_and (m+2)) (λ_ _ _ m=>two_and (m+1)) (by rintro a b (rfl|rfl) (rfl|rfl)<;>decide)
theorem gen_bor:Gen 14 1 (.str (Str.ofString "|")) (nd2 (fBin 1 (Str.ofString "|"))) [1,1] f0:=gen_tr (noDiv rfl) (beqF rfl) (beqF rfl) (λ_ _ _ m=>fb_or (m+2)) (λ_ _ h m=>two_or (m+1) h) (by rintro a b (rfl|rfl) (rfl|rfl)<;>decide)
theorem gen_bxor:Gen 14 1 (.str (Str.ofString "^")) (nd2 (fBin 1 (Str.ofString "^"))) [1,1] f0:=gen_tr (noDiv rfl) (beqF rfl) (beqF rfl) (λ_ _ _ m=>fb_xor (m+2)) (λ_ _ h m=>two_xor (m+1) h) (by rintro a b (rfl|rfl) (rfl|rfl)<;>decide)
end
section
variable{h:Nat}{k j l c a b lo hi wd jl jh:Int}{v x y z m v1 v2:V}{s:Str}(n:Nat)
theorem gen_bit(N:Num4 k lo hi wd)(D:NoDiv s)(he:(s==Str.ofString "==")=false)(hn:(s==Str.ofString "!=")=false){f:Int->Int->Int}(h1:∀a b ck m,run fns (m+4) 13 [.str s,.int k,.int a,.int b,.int ck]=M.pure (.tup [.int (f a b),.int 0]))(h2:∀a b,(Builtin.bitAnd a b).natAbs<big->∀m,run fns (m+2) 48 [.str s,.int k,.int a,.int b]=M.pure (.tup [.int (f a b),.int 0]))
  (h3:∀a b,lo<=a->a<=hi->lo<=b->b<=hi->lo<=f a b/\f a b<=hi):Gen 14 k (.str s) (nd2 (fBin k s)) [k,k] f0:=gen_bin D N.n14 N.n41 N.n41 λh v w o1 o2=>by
 obtain⟨a,rfl,a1,a2⟩:=o1.n4 N
 obtain⟨b,rfl,b1,b2⟩:=o2.n4 N
 have hb:=(bits_ok N a1 a2 b1 b2).1
 have hr:=h3 a b a1 a2 b1 b2
 exact ks_bin D (bk_N N N he hn) (h1 a b) (.num N.rg hr.1 hr.2) (h2 a b (small_big (N.small hb.1 hb.2)))
theorem gen_and(N:Num4 k lo hi wd):Gen 14 k (.str (Str.ofString "&")) (nd2 (fBin k (Str.ofString "&"))) [k,k] f0:=gen_bit N (noDiv rfl) (beqF rfl) (beqF rfl) (λ_ _ _ m=>fb_and (m+2)) (λ_ _ _ m=>two_and (m+1)) λa b a1 a2 b1 b2=>(bits_ok N a1 a2 b1 b2).1
theorem gen_or(N:Num4 k lo hi wd):Gen 14 k (.str (Str.ofString "|")) (nd2 (fBin k (Str.ofString "|"))) [k,k] f0:=gen_bit N (noDiv rfl) (beqF rfl) (beqF rfl) (λ_ _ _ m=>fb_or (m+2)) (λ_ _ h m=>two_or (m+1) h) λa b a1 a2 b1 b2=>(bits_ok N a1 a2 b1 b2).2.1
theorem gen_xor(N:Num4 k lo hi wd):Gen 14 k (.str (Str.ofString "^")) (nd2 (fBin k (Str.ofString "^"))) [k,k] f0:=gen_bit N (noDiv rfl) (beqF rfl) (beqF rfl) (λ_ _ _ m=>fb_xor (m+2)) (λ_ _ h m=>two_xor (m+1) h) λa b a1 a2 b1 b2=>(bits_ok N a1 a2 b1 b2).2.2
theorem gen_ar(N:Num4 k lo hi wd)(D:NoDiv s)(he:(s==Str.ofString "==")=false)(hn:(s==Str.ofString "!=")=false){f:Int->Int->Int}(h1:∀{a b ck m p},a.natAbs<big/\b.natAbs<big->run fns (m+3) 12 [.int k,.int (f a b),.int ck]=M.pure p->run fns (m+4) 13 [.str s,.int k,.int a,.int b,.int ck]=M.pure p)
  (h2:∀{a b} m,a.natAbs<big/\b.natAbs<big->run fns (m+2) 48 [.str s,.int k,.int a,.int b]=M.pure (.tup [.int (f a b),.int (if(decide (lo<=f a b)&&decide (f a b<=hi))=true then 0 else 220)])):Gen 14 k (.str s) (nd2 (fBin k s)) [k,k] f0:=gen_bin D N.n14 N.n41 N.n41 λh v w o1 o2=>by
 obtain⟨a,rfl,a1,a2⟩:=o1.n4 N
 obtain⟨b,rfl,b1,b2⟩:=o2.n4 N
 have hbg:a.natAbs<big/\b.natAbs<big:=⟨small_big (N.small a1 a2),small_big (N.small b1 b2)⟩
 have ht:=λm=>h2 m hbg
 by_cases hr:lo<=f a b/\f a b<=hi
 ·have hT:=in_T hr.1 hr.2
  rw[if_pos hT]at ht
  exact ks_bin D (bk_N N N he hn) (λck m=>h1 hbg (whole_in m N.rng hT)) (.num N.rg hr.1 hr.2) ht
 ·have hF:=in_F hr
  rw[if_neg (hF▸Bool.false_ne_true)]at ht
  exact ks_ov D N.rg N.ge N.le (bk_N N N he hn) (λm=>h1 hbg (whole_ck m N.rng hF)) (λm=>h1 hbg (whole_un m N.rng hF N.pos)) ht
theorem gen_add(N:Num4 k lo hi wd):Gen 14 k (.str (Str.ofString "+")) (nd2 (fBin k (Str.ofString "+"))) [k,k] f0:=gen_ar N (noDiv rfl) (beqF rfl) (beqF rfl) (λ_=>fb_add _) (λm hb=>two_add m N hb)
theorem gen_sub(N:Num4 k lo hi wd):Gen 14 k (.str (Str.ofString "-")) (nd2 (fBin k (Str.ofString "-"))) [k,k] f0:=gen_ar N (noDiv rfl) (beqF rfl) (beqF rfl) (λ_=>fb_sub _) (λm hb=>two_sub m N hb)
theorem gen_mul(N:Num4 k lo hi wd):Gen 14 k (.str (Str.ofString "*")) (nd2 (fBin k (Str.ofString "*"))) [k,k] f0:=gen_ar N (noDiv rfl) (beqF rfl) (beqF rfl) (λhb=>fb_mul _ hb) (λm hb=>two_mul m N hb)
theorem two_shl(N:Num4 k lo hi wd)(a1:lo<=a)(a2:a<=hi):run fns (n+2) 48 [.str (Str.ofString "<<"),.int k,.int a,.int b]=M.pure (.tup [.int (lo+(a*2^(b%wd).toNat-lo).fmod (hi-lo+1)),.int 0]):=by
 rcases N.all with⟨rfl,rfl,rfl,rfl⟩|⟨rfl,rfl,rfl,rfl⟩|⟨rfl,rfl,rfl,rfl⟩|⟨rfl,rfl,rfl,rfl⟩
 ·rw[Int.fmod_eq_emod_of_nonneg _ (by constructor)];exact two_shl7 n a1 a2
 ·rw[Int.fmod_eq_emod_of_nonneg _ (by constructor)];exact two_shl8 n a1 a2
 ·rw[Int.fmod_eq_emod_of_nonneg _ (by constructor)];exact two_shl9 n a1 a2
 ·rw[Int.fmod_eq_emod_of_nonneg _ (by constructor)];exact two_shl10 n a1 a2
theorem two_shr(N:Num4 k lo hi wd)(a1:lo<=a)(a2:a<=hi):run fns (n+2) 48 [.str (Str.ofString ">>"),.int k,.int a,.int b]=M.pure (.tup [.int (a.fdiv (2^(b%wd).toNat)),.int 0]):=by
 rcases N.all with⟨rfl,rfl,rfl,rfl⟩|⟨rfl,rfl,rfl,rfl⟩|⟨rfl,rfl,rfl,rfl⟩|⟨rfl,rfl,rfl,rfl⟩
 ·exact two_shr7 n a1 a2
 ·exact two_shr8 n a1 a2
 ·exact two_shr9 n a1 a2
 ·exact two_shr10 n a1 a2
theorem gen_shl(N:Num4 k lo hi wd):Gen 14 k (.str (Str.ofString "<<")) (nd2 (fBin k (Str.ofString "<<"))) [k,7] f0:=gen_bin (noDiv rfl) N.n14 N.n41 (nofun) λh v w o1 o2=>by
 obtain⟨a,rfl,a1,a2⟩:=o1.n4 N
 obtain⟨b,rfl,b1,b2⟩:=o2.n4 num7
 have w:=wrap_ok N.rg (a*2^(b%wd).toNat)
 exact ks_bin (noDiv rfl) (bk_N N num7 (beqF rfl) (beqF rfl)) (λck m=>fb_shl m N a1 a2) (.num N.rg w.1 w.2.1) (λm=>two_shl m N a1 a2)
theorem gen_shr(N:Num4 k lo hi wd):Gen 14 k (.str (Str.ofString ">>")) (nd2 (fBin k (Str.ofString ">>"))) [k,7] f0:=gen_bin (noDiv rfl) N.n14 N.n41 (nofun) λh v w o1 o2=>by
 obtain⟨a,rfl,a1,a2⟩:=o1.n4 N
 obtain⟨b,rfl,b1,b2⟩:=o2.n4 num7
 have w:=shr_ok N a1 a2 (b%wd).toNat
 exact ks_bin (noDiv rfl) (bk_N N num7 (beqF rfl) (beqF rfl)) (λck m=>fb_shr m N) (.num N.rg w.1 w.2) (λm=>two_shr m N a1 a2)
theorem abs_le2{q:Int}{n:Nat}(h:q.natAbs<=n):-(n:Int)<=q/\q<=n:=
 ⟨Int.neg_le_of_neg_le (Int.le_trans (Int.le_natAbs (a:=-q)) (by rw[Int.natAbs_neg];exact Int.ofNat_le.mpr h)),Int.le_trans Int.le_natAbs (Int.ofNat_le.mpr h)⟩
theorem half_rng{q:Int}{m n:Nat}{hi:Int}(h:m<=n/2)(h1:-(m:Int)<=q/\q<=m)(h2:(n:Int)<=hi+1)(h3:1<=hi):-hi-1<=q/\q<=hi:=by
 have:m*2<=n:=Nat.le_trans (Nat.mul_le_mul_right 2 h) (Nat.div_mul_le_self n 2)
 exact⟨by lia,by lia⟩
theorem div_rng(N:Num4 k lo hi wd)(a1:lo<=a)(a2:a<=hi)(b1:lo<=b)(b2:b<=hi)(hb:b≠0)(h0:¬(a=lo/\b=-1/\lo<0)):lo<=tdivI a b/\tdivI a b<=hi:=by
 rw[tdivI_eq]
 have key:lo<0->lo=-hi-1->1<=hi->lo<=a.tdiv b/\a.tdiv b<=hi:=by
  intro q1 q2 q3
  by_cases e1:b=1
  ·subst e1;rw[Int.tdiv_one];exact⟨a1,a2⟩
  ·by_cases e2:b=-1
   ·subst e2
    rw[Int.tdiv_neg,Int.tdiv_one]
    have:a≠lo:=λe=>h0 ⟨e,rfl,q1⟩
    exact⟨by lia,by lia⟩
   ·have hb2:2<=b.natAbs:=by lia
    rw[q2]
    exact half_rng (n:=a.natAbs) (Nat.le_trans (Nat.le_of_eq (Int.natAbs_tdiv a b)) (Nat.div_le_div_left hb2 (Nat.succ_pos _))) (abs_le2 (Nat.le_refl _)) (by omega) q3
 have keyU:lo=0->lo<=a.tdiv b/\a.tdiv b<=hi:=by
  intro q
  rw[q]at a1 b1 ⊢
  exact⟨Int.tdiv_nonneg a1 b1,Int.le_trans (Int.tdiv_le_self b a1) a2⟩
 rcases N.all with⟨_,rfl,rfl,_⟩|⟨_,rfl,rfl,_⟩|⟨_,rfl,rfl,_⟩|⟨_,rfl,rfl,_⟩
 ·exact key (by constructor) rfl (by constructor)
 ·exact keyU rfl
 ·exact key (by constructor) rfl (by constructor)
 ·exact keyU rfl
theorem tmod_le{a b:Int}(h:0<=a):a.tmod b<=a:=
 Int.le_trans (abs_le2 (Nat.le_trans (Nat.le_of_eq (Int.natAbs_tmod a b)) (Nat.mod_le _ _))).2 (Int.le_of_eq (Int.natAbs_of_nonneg h))
theorem rem_rng(N:Num4 k lo hi wd)(a1:lo<=a)(a2:a<=hi):lo<=a.tmod b/\a.tmod b<=hi:=by
 have hl:lo<=0/\0<=hi:=by rcases N.all with⟨_,rfl,rfl,_⟩|⟨_,rfl,rfl,_⟩|⟨_,rfl,rfl,_⟩|⟨_,rfl,rfl,_⟩<;>decide
 rcases Int.lt_or_le a 0 with ha|ha
 ·have h0:0<=-a:=Int.neg_nonneg_of_nonpos (Int.le_of_lt ha)
  have h1:=Int.tmod_nonneg b h0
  have h2:=tmod_le (b:=b) h0
  rw[Int.neg_tmod]at h1 h2
  exact⟨Int.le_trans a1 (Int.neg_le_neg_iff.mp h2),Int.le_trans (Int.nonpos_of_neg_nonneg h1) hl.2⟩
 ·exact⟨Int.le_trans hl.1 (Int.tmod_nonneg b ha),Int.le_trans (tmod_le ha) a2⟩
noncomputable def fD(sts:List Sta):Int:=match sts with
 |[_,.K v]=>if v.beq (.int 0)=true then 20 else 0
 |_=>0
theorem fD_K{s1:Sta}:fD [s1,.K (.int b)]=if(b==0)=true then 20 else 0:=rfl
theorem fD_sim{h:Nat}{sts sts':List Sta}(hs:F2 (Sim h) sts sts'):fD sts=fD sts':=by
 cases hs with
 |nil=>rfl
 |cons s1 hs=>cases hs with
  |nil=>rfl
  |cons s2 hs=>cases hs with
   |nil=>cases s2<;>rfl
   |cons _ _=>cases s2<;>rfl
theorem fD_20(sts:List Sta):fD sts=0\/fD sts=20:=by
 unfold fD
 split
 ·split
  ·exact .inr rfl
  ·exact .inl rfl
 ·exact .inl rfl
theorem gen_q(N:Num4 k lo hi wd)(hs:s=Str.ofString "/"\/s=Str.ofString "%")(he:(s==Str.ofString "==")=false)(hn:(s==Str.ofString "!=")=false){f:Int->Int->Int}(fb:∀{a b c p} m,run fns (m+2) 11 [.str s,.int k,.int a,.int b,.int c]=M.pure p->run fns (m+3) 13 [.str s,.int k,.int a,.int b,.int c]=M.pure p)
  (hf:∀a b,lo<=a->a<=hi->lo<=b->b<=hi->b≠0->¬(a=lo/\b=-1/\lo<0)->(a==lo&&(b==-1&&decide (lo<0)))=false->(lo<=f a b/\f a b<=hi)/\(∀ck m,run fns (m+3) 11 [.str s,.int k,.int a,.int b,.int ck]=M.pure (.tup [.int (f a b),.int 0]))/\∀m,run fns (m+2) 48 [.str s,.int k,.int a,.int b]=M.pure (.tup [.int (f a b),.int 0])):
  Gen 14 k (.str s) (nd2 (fBin k s)) [k,k] fD:=
 have zr:∀(x:V) b ck m,run fns (m+2) 21 [fBin k s x (con k (.int b)) ck]=M.pure (.bool (b==0)):=λx b ck m=>zr_K m (by rcases hs with rfl|rfl<;>rw[ofs_beq,ofs_beq]<;>rfl) N.ge N.le
 Gen2.gen
 {sh:=shape_bin,c26:=rfl,ne:=N.n14
  asc:=λh s s2 ck m o o2=>asc_bin N.n41 N.n41 o o2
  unk:=λa b mk=>unk_op (c:=14) rfl rfl
  f20:=fD_20,fsim:=λ_ _ _=>fD_sim
  ks:=λh v w o1 o2=>by
   obtain⟨a,rfl,a1,a2⟩:=o1.n4 N
   obtain⟨b,rfl,b1,b2⟩:=o2.n4 N
   have bk:∀ck m,run fns (m+3) 20 [fBin k s (con k (.int a)) (con k (.int b)) ck]=M.pure (.bool true):=bk_N N N he hn
   have zr:=zr (con k (.int a)) b
   by_cases hb:b=0
   ·subst hb
    have hr:∀ck m,run fns (m+5) 22 [fBin k s (con k (.int a)) (con k (.int 0)) ck]=M.pure (.tup [.none,.int 20]):=λck m=>br_ m λm=>fb (m+1) (divide_0 (m+2))
    exact ks_none (λm=>faultb_z (m+3) (zr 1)) (λm=>foldb_n m (bk 1) (hr 1)) (λm=>faultb_z (m+3) (zr 0)) (λm=>foldb_n m (bk 0) (hr 0)) (.inr rfl) (me2 λm _ _ _ _ _=>meant_bin_z m hs) (by exact nofun)
   rw[show(b==0)=false from beq_false_of_ne hb]at zr
   by_cases ho:a=lo/\b=-1/\lo<0
   ·obtain⟨rfl,rfl,hlo⟩:=ho
    exact ks_none (λm=>faultb_k m (zr 1) (bk 1) λm=>br_ m λm=>fb (m+1) (divide_ov (m+1) (c:=1) N.rng hlo)) (λm=>foldb_n m (bk 1) λm=>br_ m λm=>fb (m+1) (divide_ov (m+1) (c:=1) N.rng hlo)) (λm=>faultb_k m (zr 0) (bk 0) λm=>br_ m λm=>fb (m+1) (divide_ov (m+1) (c:=0) N.rng hlo)) (λm=>foldb_n m (bk 0) λm=>br_ m λm=>fb (m+1) (divide_ov (m+1) (c:=0) N.rng hlo))
     (.inl rfl) (me2 λm _ _ _ _ _=>meant_bin_q m hs rfl λm=>two_ov m N hlo hs) (λ_ m r3 r4 r5=>turned_q m hs λm=>still_O m rfl)
   ·obtain⟨rg,hr,ht⟩:=hf a b a1 a2 b1 b2 hb ho (by
     cases e1:(a==lo)with
     |false=>rfl
     |true=>cases e2:(b==-1)with
      |false=>rfl
      |true=>exact decide_eq_false λe3=>ho ⟨eq_of_beq e1,eq_of_beq e2,e3⟩)
    exact ks_same (λck m=>faultb_k m (zr ck) (bk ck) λm=>br_ m λm=>fb (m+1) (hr ck m)) (λck m=>foldb_s m (bk ck) λm=>br_ m λm=>fb (m+1) (hr ck m)) (.num N.rg rg.1 rg.2) (me2 λm _ _ _ _ _=>meant_bin_q m hs (beq_false_of_ne hb) ht)
  us:=λh s1 s2 mk o1 o2 ha=>by
   have hb:=λm=>bk_no (k:=k) (s:=s) (ck:=mk) N.n41 N.n41 o1 o2 ha m
   refine⟨?_,λm=>foldb_u (m+2) hb⟩
   cases o2 with
   |N q=>exact absurd q N.n41
   |U u _ _ _ _=>exactλm=>faultb_u (m+2) (λm=>zr_U m u) hb
   |K o2=>
    obtain⟨b,rfl,b1,b2⟩:=o2.n4 N
    have zr:=zr (s1.sv k) b mk
    rw[fD_K]
    cases hb0:(b==0)with
    |true=>rw[hb0]at zr;exactλm=>faultb_z (m+3) zr
    |false=>rw[hb0]at zr;exactλm=>faultb_u (m+2) zr hb
  mu:=λh s1 s2 m1 m2 o1 o2 p1 p2 ha m r3 r4 r5=>by
   cases p2 with
   |N g2=>cases o2 with|N q=>exact absurd q N.n41
   |V S g2 q=>exact absurd q N.n41
   |U S b g2=>
    obtain⟨c1,w1,g1,q1,rfl⟩:=mean_any p1
    exact meant_q_U2 m hs q1
   |K v g2=>
    obtain⟨b,rfl,b1,b2⟩:=o2.ok.n4 N
    obtain⟨c1,w1,g1,q1,rfl⟩:=mean_U p1 ((Bool.and_true _).symm.trans ha)
    rw[fD_K]
    by_cases hb0:b=0
    ·subst hb0;exact meant_bin_z m hs
    ·rw[if_neg λq=>hb0 (eq_of_beq q)];exact meant_q_U1 m hs q1 (beq_false_of_ne hb0)}
theorem and_cm{a b c:Bool}(h:(a&&(b&&c))=false):(b&&(a&&c))=false:=by rw[←h];cases a<;>cases b<;>rfl
theorem gen_div(N:Num4 k lo hi wd):Gen 14 k (.str (Str.ofString "/")) (nd2 (fBin k (Str.ofString "/"))) [k,k] fD:=gen_q N (.inl rfl) (beqF rfl) (beqF rfl) (f:=tdivI) (λm h=>fb_div m h) λa b a1 a2 b1 b2 hb ho h0=>
 ⟨div_rng N a1 a2 b1 b2 hb ho,λck m=>divide_q m N.rng hb h0 (small_big (N.small a1 a2)) (small_big (N.small b1 b2)),λm=>two_div m N a1 a2 hb (and_cm h0) (N.small b1 b2)⟩
theorem gen_rem(N:Num4 k lo hi wd):Gen 14 k (.str (Str.ofString "%")) (nd2 (fBin k (Str.ofString "%"))) [k,k] fD:=gen_q N (.inr rfl) (beqF rfl) (beqF rfl) (f:=Int.tmod) (λm h=>fb_rem m h) λa b a1 a2 b1 b2 hb ho h0=>by
 have dr:=div_rng N a1 a2 b1 b2 hb ho
 refine⟨rem_rng N a1 a2,λck m=>?_,λm=>two_rem m N a1 a2 hb (and_cm h0) (N.small b1 b2)⟩
 rw[←tmod_eq]
 exact divide_r m (c:=ck) N.rng hb h0 (small_big (N.small a1 a2)) (small_big (N.small b1 b2)) (small_big (N.small dr.1 dr.2))
end
structure Fun(code k:Int)(sg:V)(js:List Int)(nd:List V->V)(F:List Sta->Sta):Prop where
 put:∀(m:Nat)(cs:List V)(r3 r4 r5:V)(ck:Int),cs.length=js.length->run fns (m+1) 44 [rw6 code k sg r3 r4 r5,.lst cs,.int ck]=M.pure (nd cs)
 asc:∀(h:Nat)(sts:List Sta)(m:Nat)(lo:Int),F2 (StaOk h) js sts->lo=0\/lo=1->run fns (m+2) 19 [nd (svs js sts),.int lo]=M.pure (nd (svs js sts))
 pd:∀(h:Nat)(sts:List Sta),F2 (StaOk h) js sts->h<=20->Pd 100 (nd (svs js sts))
 flt:∀(h:Nat)(sts:List Sta),F2 (StaOk h) js sts->∀m,run fns (m+6) 23 [nd (svs js sts)]=M.pure (.int 0)
 fld:∀(h:Nat)(sts:List Sta),h<=7->F2 (StaOk h) js sts->∀m,run fns (m+7) 34 [nd (svs js sts)]=M.pure ((F sts).sv k)
 ok:∀(h:Nat)(sts:List Sta),h<=7->F2 (StaOk h) js sts->StaOk (h+1) k (F sts)
 sim:∀(h:Nat)(sts sts':List Sta),h<=7->F2 (StaOk h) js sts->F2 (StaOk h) js sts'->F2 (Sim h) sts sts'->Sim (h+1) (F sts) (F sts')
 nu:∀(h:Nat)(sts:List Sta),F2 (StaOk h) js sts->(F sts).isU=false->∀s∈sts,s.isU=false
 fo:∀(h:Nat)(sts:List Sta)(ls:List (List Int)),h<=7->F2 (StaOk h) js sts->F2 (FO (h+2)) (svs js sts) ls->(∀l∈ls,l.length<100000)->F2 (λ(s:Sta)(l:List Int)=>s.isU=false->l=[]) sts ls->(F sts).isU=true->FO (h+1+2) ((F sts).sv k) ls.flatten
 me:∀(h:Nat)(sts:List Sta)(ms:List V),h<=7->F2 (StaOk h) js sts->F2 (λ(p:Int×Sta) m=>MeanOk p.1 p.2 m) (js.zip sts) ms->
  ∃st v,(∀m r3 r4 r5,run fns (m+3) 49 [rw6 code k sg r3 r4 r5,.lst ms]=M.pure (mn st v 0))/\MeanOk k (F sts) (mn st v 0)
 wh:∀(h g:Nat)(sts:List Sta)(Ws:List V),h<=7->F2 (StaOk h) js sts->F2 (FA (g+2)) Ws (svs js sts)->(∀W∈Ws,∃p,W=.tup p)->FA (g+3) (nd Ws) ((F sts).sv k)
 tp:∀Ws,Ws.length=js.length->∃p,nd Ws=.tup p
 wb:code=26->∀(h g:Nat)(sts:List Sta)(Ws:List V)(b:Nat),h<=7->F2 (StaOk h) js sts->F2 (FA (g+2)) Ws (svs js sts)->(∀W∈Ws,∃p,W=.tup p)->(b=0\/b=Ws.length-2)->(∀s∈(sts.drop b).take 2,s.isK=true)->
  ∃e,(∀m r3 r4 r5 ck,run fns (m+1) 44 [rw6 code k sg r3 r4 r5,.lst (Ws.take b++[.tup [.int 26,.int 13,.tup ((Ws.drop b).take 2)]]++Ws.drop (b+2)),.int ck]=M.pure e)/\FA (g+4) e ((F sts).sv k)/\∃p,e=.tup p
section
variable{h:Nat}{js:List Int}{sts sts':List Sta}{code k ck lo:Int}{sg r3 r4 r5:V}{nd:List V->V}{F:List Sta->Sta}
theorem fun_one(G:Fun code k sg js nd F)(hh:h<=7)(hv:F2 (StaOk h) js sts)(bs:List Bool)(ck lo:Int)(hlo:lo=0\/lo=1):
  One (rw6 code k sg r3 r4 r5) (svs js sts) bs ck lo ((F sts).sv k) 0 (if lo=0/\false∉bs then 1 else ck):=
 ⟨rfl,nd (svs js sts),nd (svs js sts),λm=>G.put m _ _ _ _ _ (svs_len hv),λm=>G.asc h sts m lo hv hlo,λm=>G.put m _ _ _ _ _ (svs_len hv),G.pd h sts hv (Nat.le_trans (by assumption) (by decide)),G.flt h sts hv,G.fld h sts hh hv⟩
theorem fun_rec(G:Fun code k sg js nd F)(hn:js.length<=3)(kids:List Rec)(hk:kids.map Rec.k=js)(hl:∀q∈kids,Sem q/\q.h<=h)(hh:h<=7)(hcl:(lo=0/\(ck=0\/ck=1))\/(lo=1/\ck=0))(idx:List Nat):
  Mk kids k (h+1) (rw6 code k sg (.int ck) (.int lo) (.tup (idx.map λ(i:Nat)=>V.int i))) idx:=by
 have hkn:kids.length<=3:=by rw[←hk,List.length_map]at hn;exact hn
 have vm:F2 (StaOk h) js (kids.map Rec.sm):=by rw[←hk];exact F2_map λq hq=>(hl q hq).1.om.le (hl q hq).2
 have vs_:F2 (StaOk h) js (kids.map Rec.ss):=by rw[←hk];exact F2_map λq hq=>(hl q hq).1.os.le (hl q hq).2
 have vp:F2 (StaOk h) js (kids.map Rec.sp):=by rw[←hk];exact F2_map λq hq=>(hl q hq).1.op.le (hl q hq).2
 have vl:F2 (StaOk h) js (kids.map Rec.sl):=by rw[←hk];exact F2_map λq hq=>(hl q hq).1.ol.le (hl q hq).2
 have sp_:F2 (Sim h) (kids.map Rec.ss) (kids.map Rec.sp):=F2_map λq hq=>(hl q hq).1.simp.le (hl q hq).2
 have sl_:kids.all Rec.clean=true->F2 (Sim h) (kids.map Rec.ss) (kids.map Rec.sl):=λe=>F2_map λq hq=>((hl q hq).1.siml (List.all_eq_true.mp e q hq)).le (hl q hq).2
 have sm_:kids.all Rec.clean=true->F2 (Sim h) (kids.map Rec.ss) (kids.map Rec.sm):=λe=>F2_map λq hq=>((hl q hq).1.simm (List.all_eq_true.mp e q hq)).le (hl q hq).2
 have me_:F2 (λ(p:Int×Sta) m=>MeanOk p.1 p.2 m) (js.zip (kids.map Rec.ss)) (kids.map Rec.mean):=by
  rw[←hk,zip_map];exact F2_map λq hq=>(hl q hq).1.me
 have cs_:=sv_of_K (f:=Rec.ss) hk rfl
 have cp_:=sv_of_K (f:=Rec.sp) hk rfl
 have cl_:=sv_of_K (f:=Rec.sl) hk rfl
 have cm_:=sv_of_K (f:=Rec.sm) hk rfl
 obtain⟨st,v,ME,MO⟩:=G.me h _ _ hh vs_ me_
 have hb:kids.length=js.length:=by rw[←hk,List.length_map]
 have hlnil:(F (kids.map Rec.sm)).isU=false->(kids.map Rec.l).flatten=[]:=λq=>
  flat_nil λp hp=>(hl p hp).1.lk (G.nu h _ vm q _ (List.mem_map.mpr ⟨p,hp,rfl⟩))
 have hlo:lo=0\/lo=1:=hcl.imp And.left And.left
 have fl0:(kids.map Rec.l).flatten++fl1 0=(kids.map Rec.l).flatten:=by exact List.append_nil _
 refine⟨{k:=k,h:=h+1,code:=code,rk:=k,sg:=sg,ck:=ck,lo:=lo,idx:=idx,sm:=F (kids.map Rec.sm),ss:=F (kids.map Rec.ss),sp:=F (kids.map Rec.sp),sl:=F (kids.map Rec.sl),fm:=0,fs:=0,fl:=0,mm:=if lo=0/\false∉(kids.map λq=>q.sm.isK)then 1 else ck,ms:=if(0:Int)=0/\false∉(kids.map λq=>q.ss.isK)then 1 else 1,mp:=if(0:Int)=0/\false∉(kids.map λq=>q.sp.isK)then 1 else 0,ml:=if(1:Int)=0/\false∉(kids.map λq=>q.sl.isK)then 1 else 0,mst:=st,mv:=v,clean:=kids.all Rec.clean&&(0:Int)==0,l:=(kids.map Rec.l).flatten++fl1 0},?_,?_,rfl,rfl,rfl,rfl⟩
 ·refine⟨G.ok h _ hh vm,G.ok h _ hh vs_,G.ok h _ hh vp,G.ok h _ hh vl,?_,ll_ok hl hkn 0,λq=>?_,G.sim h _ _ hh vs_ vp sp_,λq=>G.sim h _ _ hh vs_ vl (sl_ (by simpa using q)),λq=>G.sim h _ _ hh vs_ vm (sm_ (by simpa using q)),λq=>?_,MO⟩
  ·show FO (h+1+2) ((F (kids.map Rec.sm)).sv k) ((kids.map Rec.l).flatten++fl1 0)
   rw[fl0]
   cases hu:(F (kids.map Rec.sm)).isU with
   |false=>rw[hlnil hu];exact kn_fo (G.ok h _ hh vm) hu
   |true=>
    refine G.fo h _ _ hh vm ?_ ?_ ?_ hu
    ·rw[←cm_]
     exact F2_map λq hq=>(hl q hq).1.fo.le (by have:=(hl q hq).2;exact Nat.add_le_add_right (by assumption) _)
    ·intro l hll
     obtain⟨q,hq,rfl⟩:=List.mem_map.mp hll
     have h1:=(hl q hq).1.ll
     have h3:4^q.h<=4^7:=Nat.pow_le_pow_right (Nat.succ_pos _) (by have:=(hl q hq).2;exact Nat.le_trans (by assumption) (by assumption))
     exact Nat.lt_of_le_of_lt (Nat.le_trans h1 h3) (by decide)
    ·exact F2_map λq hq=>(hl q hq).1.lk
  ·show(kids.map Rec.l).flatten++fl1 0=[]
   rw[fl0];exact hlnil q
  ·show(kids.all Rec.clean&&(0:Int)==0)=true
   have:kids.all Rec.clean=true:=by
    rw[List.all_eq_true]
    intro p hp
    exact(hl p hp).1.cl (G.nu h _ vs_ q _ (List.mem_map.mpr ⟨p,hp,rfl⟩))
   rw[this];rfl
 ·refine⟨?_,?_,?_,?_,.inl rfl,λm=>ME m _ _ _,rfl,λ_ q=>absurd (show(20:Int)<0 from q) (nofun),.inl rfl,rfl,?_,?_⟩
  ·rw[cm_];exact fun_one G hh vm _ ck lo hlo
  ·rw[cs_];exact fun_one G hh vs_ _ 1 0 (.inl rfl)
  ·rw[cp_];exact fun_one G hh vp _ 0 0 (.inl rfl)
  ·rw[cl_];exact fun_one G hh vl _ 0 1 (.inr rfl)
  ·intro g Ws hF hW
   have hlen:Ws.length=js.length:=by rw[hF.len,hb]
   exact⟨nd Ws,λm=>G.put m _ _ _ _ _ hlen,G.wh h g _ Ws hh vm (by rw[←cm_];exact F2_mapl hF) hW,G.tp Ws hlen⟩
  ·intro hc g Ws b hF hW hb2 hK
   obtain⟨e,e1,e2,e3⟩:=G.wb hc h g _ Ws b hh vm (by rw[←cm_];exact F2_mapl hF) hW hb2 (by
    intro s hs
    rw[←List.map_drop,←List.map_take]at hs
    obtain⟨q,hq,rfl⟩:=List.mem_map.mp hs
    exact hK q hq)
   exact⟨e,λm=>e1 m _ _ _ _,e2,e3⟩
theorem leaf_rec{code rk k:Int}{sg e:V}{s:Sta}{st:Int}{v:V}(hput:∀m x ck r3 r4 r5,run fns (m+1) 44 [rw6 code rk sg r3 r4 r5,x,.int ck]=M.pure e)(hasc:∀m lo,lo=0\/lo=1->run fns (m+2) 19 [e,.int lo]=M.pure e)
  (hpd:Pd 100 e)(hflt:∀m,run fns (m+6) 23 [e]=M.pure (.int 0))(hfld:∀m,run fns (m+7) 34 [e]=M.pure (s.sv k))(hok:StaOk 0 k s)(hsim:Sim 0 s s)(hfo:FO 2 (s.sv k) [])(hme:∀m x r3 r4 r5,run fns (m+3) 49 [rw6 code rk sg r3 r4 r5,x]=M.pure (mn st v 0))(hmo:MeanOk k s (mn st v 0))
  (hrk:rk=k\/(rk=15/\s=.U (con 15 .none)/\v=.int 0))(hfa:∀g,FA (g+3) e (s.sv k))(htp:∃p,e=.tup p)(h26:(code==26)=false):
  Mk [] k (0) (rw6 code rk sg (.int 0) (.int 0) (.tup [])) []:=by
 have hone:∀ck lo,lo=0\/lo=1->One (rw6 code rk sg (.int 0) (.int 0) (.tup [])) [] [] ck lo (s.sv k) 0 (if lo=0/\false∉([]:List Bool)then 1 else ck):=λck lo hlo=>
  ⟨rfl,e,e,λm=>hput m _ _ _ _ _,λm=>hasc m lo hlo,λm=>hput m _ _ _ _ _,hpd,hflt,hfld⟩
 refine⟨{k:=k,h:=0,code:=code,rk:=rk,sg:=sg,ck:=0,lo:=0,idx:=[],sm:=s,ss:=s,sp:=s,sl:=s,fm:=0,fs:=0,fl:=0,mm:=if(0:Int)=0/\false∉([]:List Bool)then 1 else 0,ms:=if(0:Int)=0/\false∉([]:List Bool)then 1 else 1,mp:=if(0:Int)=0/\false∉([]:List Bool)then 1 else 0,ml:=if(1:Int)=0/\false∉([]:List Bool)then 1 else 0,mst:=st,mv:=v,clean:=true,l:=[]},?_,?_,rfl,rfl,rfl,rfl⟩
 ·exact⟨hok,hok,hok,hok,hfo,by simp,λ_=>rfl,hsim,λ_=>hsim,λ_=>hsim,λ_=>rfl,hmo⟩
 ·refine⟨hone 0 0 (.inl rfl),hone 1 0 (.inl rfl),hone 0 0 (.inl rfl),hone 0 1 (.inr rfl),.inl rfl,λm=>hme m _ _ _ _,rfl,λ_ q=>absurd (show(20:Int)<0 from q) (nofun),?_,rfl,?_,?_⟩
  ·rcases hrk with q|⟨a,b,c⟩
   ·exact .inl q
   ·exact .inr ⟨a,b,b,c⟩
  ·intro g Ws hF hW
   exact⟨e,λm=>hput m _ _ _ _ _,hfa g,htp⟩
  ·intro q;rw[show code=26 from q]at h26;exact Bool.noConfusion (h26)
end
section
variable{h:Nat}{k j l c a b lo hi:Int}{v x y z m:V}{s:Str}(n:Nat)
theorem fo_dflt:FO (h+1) (.tup [.int 12,.int k]) []:=λn=>by
 refine(run_b (n+(h+8)) 50 _ (d:=f_law_found) rfl rfl).trans ?_
 have f1:run fns (n+(h+8)) 23 [.tup [.int 12,.int k]]=M.pure (.int 0):=run_at rfl (fault_o (n+(h+7)) (c:=12) rfl rfl rfl)
 have m0:mkLst []=some (.lst []):=rfl
 have s0:slcV (.tup [.int 12,.int k]) 2 none=some (.tup []):=rfl
 have i0:itemsV (.tup [])=some []:=rfl
 rfl
theorem flt1{r:List V}(m:Nat):run fns (m+6) 23 [.tup (.int 1::r)]=M.pure (.int 0):=fault_o (m+5) (c:=1) rfl rfl rfl
theorem leaf_con(o:Okv 0 k v):Mk [] k (0) (rw6 1 k v (.int 0) (.int 0) (.tup [])) []:=by
 refine leaf_rec (e:=con k v) (s:=.K v) (st:=1) (v:=v) (λm x ck r3 r4 r5=>put_c m (.inl rfl)) ?_ ((con_pd o (d:=0)).le (Nat.succ_pos _)) flt1 (λm=>fold_o (m+6) (c:=1) rfl rfl rfl rfl rfl rfl rfl rfl) (.K o) (.K v) (kn_fo (.K o) rfl) (λm x r3 r4 r5=>meant_con (m+2) o.ne15) (.K v 0) (.inl rfl) (λg=>fa_con) ⟨_,rfl⟩ rfl
 intro m lo hlo
 rcases hlo with rfl|rfl
 ·exact asc_other (m+1) (c:=1) rfl rfl rfl
 ·exact asc_loose (m+1)
theorem leaf_bad(hk:k≠14):Mk [] k (0) (rw6 1 15 .none (.int 0) (.int 0) (.tup [])) []:=by
 have hp:∀d,Pd (d+1) (con 15 .none):=λd=>⟨rfl,by exact Nat.succ_pos _⟩
 refine leaf_rec (k:=k) (e:=con 15 .none) (s:=.U (con 15 .none)) (st:=0) (v:=.int 0) (λm x ck r3 r4 r5=>put_c m (.inl rfl)) ?_ (hp _) flt1 (λm=>fold_o (m+6) (c:=1) rfl rfl rfl rfl rfl rfl rfl rfl) (.U unk_bad ⟨_,_,rfl,by decide⟩ (hp _) fa_con hk) (.U (um_con3 um_n) (um_con3 um_n) (hp _)) ?_ (λm x r3 r4 r5=>meant_bad (m+2)) (.U _ 0 0) (.inr ⟨rfl,rfl,rfl⟩) (λg=>fa_con) ⟨_,rfl⟩ rfl
 ·intro m lo hlo
  rcases hlo with rfl|rfl
  ·exact asc_other (m+1) (c:=1) rfl rfl rfl
  ·exact asc_loose (m+1)
 ·exact fo_conn (g:=0) flt1
theorem leaf_loc(hk:k≠14):Mk [] k (0) (rw6 2 k (.int 1) (.int 0) (.int 0) (.tup [])) []:=by
 have hp:∀d,Pd (d+1) (.tup [.int 2,.int k,.int 1]):=λd=>⟨rfl,by exact Nat.succ_pos _⟩
 have hfl:∀m,run fns (m+6) 23 [.tup [.int 2,.int k,.int 1]]=M.pure (.int 0):=λm=>fault_o (m+5) (c:=2) rfl rfl rfl
 have hfd:∀m,run fns (m+7) 34 [.tup [.int 2,.int k,.int 1]]=M.pure (.tup [.int 2,.int k,.int 1]):=λm=>fold_o (m+6) (c:=2) rfl rfl rfl rfl rfl rfl rfl rfl
 have hfa:∀g,FA g (.tup [.int 2,.int k,.int 1]) (.tup [.int 2,.int k,.int 1]):=λg=>fa_0 rfl (λm=>kids_loc m) hfd
 refine leaf_rec (k:=k) (e:=.tup [.int 2,.int k,.int 1]) (s:=.U (.tup [.int 2,.int k,.int 1])) (st:=0) (v:=.int 0) (λm x ck r3 r4 r5=>put_c m (.inr rfl)) ?_ (hp _) hfl hfd (.U (unk_op rfl rfl) ⟨_,_,rfl,by simp⟩ (hp _) (hfa _) hk) (.U um_loc um_loc (hp _)) ?_ (λm x r3 r4 r5=>meant_loc (m+2)) (.U _ 0 0) (.inl rfl) (λg=>hfa _) ⟨_,rfl⟩ rfl
 ·intro m lo hlo
  rcases hlo with rfl|rfl
  ·exact asc_other (m+1) (c:=2) rfl rfl rfl
  ·exact asc_loose (m+1)
 ·exact fo_loc (g:=0) hfl
theorem dflt_asc:∀m lo,lo=0\/lo=1->run fns (m+2) 19 [.tup [.int 12,.int k],.int lo]=M.pure (.tup [.int 12,.int k]):=by
 intro m lo hlo
 rcases hlo with rfl|rfl
 ·exact asc_other (m+1) (c:=12) rfl rfl rfl
 ·exact asc_loose (m+1)
theorem dflt_pd:∀d,Pd (d+1) (.tup [.int 12,.int k]):=λd=>⟨rfl,by exact Nat.succ_pos _⟩
theorem leaf_dK(o:Okv 0 k v)(hf:∀m,run fns (m+3) 34 [.tup [.int 12,.int k]]=M.pure (con k v))(hm:∀m x r3 r4 r5,run fns (m+1) 49 [rw6 12 k (.int 0) r3 r4 r5,x]=M.pure (mn 1 v 0)):
  Mk [] k (0) (rw6 12 k (.int 0) (.int 0) (.int 0) (.tup [])) []:=
 leaf_rec (e:=.tup [.int 12,.int k]) (s:=.K v) (st:=1) (v:=v) (λm x ck r3 r4 r5=>put_d m) dflt_asc (dflt_pd _) (λm=>fault_o (m+5) (c:=12) rfl rfl rfl) (λm=>hf (m+4)) (.K o) (.K v) (kn_fo (.K o) rfl) (λm x r3 r4 r5=>hm (m+2) x r3 r4 r5) (.K v 0) (.inl rfl) (λg=>fa_0 rfl (λm=>kids_dflt m) (λm=>hf (m+4))) ⟨_,rfl⟩ rfl
theorem leaf_d0(R:Rg k lo hi)(hk:k≠40):Mk [] k (0) (rw6 12 k (.int 0) (.int 0) (.int 0) (.tup [])) []:=by
 have h1:(40==k)=false/\(41==k)=false/\(13==k)=false/\(12==k)=false:=by cases R<;>first|(exact absurd rfl hk)|exact⟨rfl,rfl,rfl,rfl⟩
 refine leaf_dK (.num R ?_ ?_) (λm=>dflt_0 m ?_) (λm x r3 r4 r5=>meant_d0 m h1.1 h1.2.1 h1.2.2.1 h1.2.2.2)
 ·cases R<;>constructor
 ·cases R<;>constructor
 ·cases R<;>first|(exact absurd rfl hk)|exact .inl rfl|exact .inr ⟨by constructor,by constructor⟩
theorem leaf_dn(hk:k=13\/k=12):Mk [] k (0) (rw6 12 k (.int 0) (.int 0) (.int 0) (.tup [])) []:=
 leaf_dK (.null (by lia)) (λm=>dflt_n m hk) (λm x r3 r4 r5=>meant_dn m hk)
theorem leaf_dE:Mk [] 40 (0) (rw6 12 40 (.int 0) (.int 0) (.int 0) (.tup [])) []:=by
 have hfd:∀m,run fns (m+7) 34 [.tup [.int 12,.int 40]]=M.pure (.tup [.int 12,.int 40]):=λm=>dflt_o (m+4) (.inl rfl)
 have hfa:∀g,FA g (.tup [.int 12,.int 40]) (.tup [.int 12,.int 40]):=λg=>fa_0 rfl (λm=>kids_dflt m) hfd
 exact leaf_rec (k:=40) (e:=.tup [.int 12,.int 40]) (s:=.U (.tup [.int 12,.int 40])) (st:=0) (v:=.int 0) (λm x ck r3 r4 r5=>put_d m) dflt_asc (dflt_pd _) (λm=>fault_o (m+5) (c:=12) rfl rfl rfl) hfd (.U (unk_op rfl rfl) ⟨_,_,rfl,by decide⟩ (dflt_pd _) (hfa _) (nofun)) (.U um_dflt um_dflt (dflt_pd _)) fo_dflt (λm x r3 r4 r5=>meant_do (m+2) (.inl rfl)) (.U _ 0 0) (.inl rfl) (λg=>hfa _) ⟨_,rfl⟩ rfl
end
noncomputable def nullSt:Sta->Bool
 |.K .none=>true
 |.N=>true
 |_=>false
noncomputable def fRef(k b j:Int)(sts:List Sta):Sta:=match sts with
 |[s]=>if nullSt s=true then(if k=41 then(if b=3 then .U (.tup [.int 19,.int k,s.sv j,.int b,.int 0])else .N)else .K .none)else .U (.tup [.int 19,.int k,s.sv j,.int b,.int 0])
 |_=>.N
noncomputable def fNul(k:Int)(_:List Sta):Sta:=if k=41 then .N else .K .none
section
variable{h:Nat}{k j l c a b lo hi:Int}{v x y z m:V}{s:Sta}{code:Int}{sg:V}{nd:List V->Int->V}{js:List Int}{sts sts':List Sta}(n:Nat)
theorem U_shape(sh:Shape code k sg nd js.length)(hv:F2 (StaOk h) js sts)(mk:Int)(hu:Unk (nd (svs js sts) mk))(hf:∀m,run fns (m+7) 34 [nd (svs js sts) mk]=M.pure (nd (svs js sts) mk))(hk:k≠14):StaOk (h+1) k (.U (nd (svs js sts) mk)):=by
 have hl:=svs_len hv
 refine .U hu ?_ ?_ ?_ hk
 ·obtain⟨c,p,e,hp,_⟩:=sh.tp (svs js sts) mk hl
  exact⟨c,p,e,hp⟩
 ·exact sh.pd (2*h+2) _ mk hl (svs_all (λj s o=>o.pd) hv)
 ·exact sh.fa (h+1) _ _ mk _ hl (svs_F hv) (svs_all (λj s o=>o.tp.tup) hv) hf
theorem sim_shape(sh:Shape code k sg nd js.length)(hv:F2 (StaOk h) js sts)(hv':F2 (StaOk h) js sts')(hs:F2 (Sim h) sts sts')(mk mk':Int):Sim (h+1) (.U (nd (svs js sts) mk)) (.U (nd (svs js sts') mk')):=by
 obtain⟨us,a,b,c⟩:=svs_um hv hs
 have hl:=svs_len hv
 have hu:us.length=js.length:=by rw[←a.len,hl]
 refine .U (sh.um _ _ us mk hl a (svs_all (λj s o=>o.tp.tup) hv)) (sh.um _ _ us mk' (svs_len hv') b (svs_all (λj s o=>o.tp.tup) hv')) ?_
 exact sh.pd (2*h+2) us 0 hu c
theorem icn_st(hj:j=12\/j=13\/j=41)(o:StaOk h j s)(m:Nat):run fns (m+2) 28 [s.sv j]=M.pure (.bool (nullSt s)):=by
 cases o with
 |K o=>
  cases o with
  |num r _ _=>cases r<;>rfl
  |str _=>exact icn_Ks m rfl
  |null q=>exact icn_Kn m (by rcases q with rfl|rfl|rfl<;>rfl)
 |N _=>exact icn_N m
 |U u _ _ _ _=>exact u.nu m
theorem sim_null{s s':Sta}(o:Sim h s s'):nullSt s=nullSt s':=by cases o<;>rfl
theorem null_U(h:nullSt s=true):s.isU=false:=by cases s<;>first|rfl|exact Eq.symm (by assumption)
theorem fref_fld(hb:b=2\/b=3)(hk:k=13\/k=12\/k=41)(hj:j=12\/j=13\/j=41)(o:StaOk h j s)(m:Nat):run fns (m+7) 34 [.tup [.int 19,.int k,s.sv j,.int b,.int 0]]=M.pure ((fRef k b j [s]).sv k):=by
 have hi:=icn_st hj o
 cases e:nullSt s with
 |true=>
  rw[e]at hi
  simp only[fRef,e,if_true]
  by_cases h41:k=41
  ·subst h41
   rw[if_pos rfl]
   rcases hb with rfl|rfl
   ·exact conv_ref_C (m+3) hi
   ·exact conv_cast_C (m+3) hi
  ·rw[if_neg h41]
   exact conv_ref_so (m+3) hb (by lia) hi
 |false=>
  rw[e]at hi
  simp only[fRef,e]
  exact conv_ref_no (m+3) hb hi
theorem gen_ref(hb:b=2\/b=3)(hk:k=13\/k=12\/k=41)(hj:j=12\/j=13\/j=41):Fun 19 k (.int b) [j] (λcs=>nd1 (fCv k b) cs 0) (fRef k b j):=by
 have b1:(b==1)=false:=by rcases hb with rfl|rfl<;>rfl
 have b8:(b==8)=false:=by rcases hb with rfl|rfl<;>rfl
 have sh:Shape 19 k (.int b) (nd1 (fCv k b)) 1:=shape_cv b1
 have hk14:k≠14:=by lia
 refine⟨λm cs r3 r4 r5 ck hn=>?_,λh sts m lo hv hlo=>?_,λh sts hv hh=>?_,λh sts hv m=>?_,λh sts hh hv m=>?_,λh sts hh hv=>?_,λh sts sts' hh hv hv' hs=>?_,λh sts hv hu=>?_,λh sts ls hh hv hF hl hn hu=>?_,λh sts ms hh hv hm=>?_,λh g sts Ws hh hv hF hW=>?_,λWs hn=>?_,λq=>absurd q (nofun)⟩
 ·obtain⟨a,rfl⟩:=ln1 hn
  exact put_cv m b1
 ·obtain⟨s,rfl,o⟩:=hv.i1
  rcases hlo with rfl|rfl
  ·exact asc_conv m b1
  ·exact asc_loose (m+1)
 ·exact(sh.pd (2*h+2) _ 0 (svs_len hv) (svs_all (λj s o=>o.pd) hv)).le (by lia)
 ·obtain⟨s,rfl,o⟩:=hv.i1
  exact fault_cv (m+5) b1
 ·obtain⟨s,rfl,o⟩:=hv.i1
  exact fref_fld hb hk hj o m
 ·obtain⟨s,rfl,o⟩:=hv.i1
  have hf:=λm=>fref_fld hb hk hj o m
  have hU:(fRef k b j [s])=.U (.tup [.int 19,.int k,s.sv j,.int b,.int 0])->StaOk (h+1) k (fRef k b j [s]):=λe=>by
   rw[e]at hf ⊢
   exact U_shape (js:=[j]) sh hv 0 (unk_conv b8) hf hk14
  cases e:nullSt s with
  |true=>
   by_cases h41:k=41
   ·by_cases h3:b=3
    ·exact hU (by simp only[fRef,e,if_true,h41,h3])
    ·have:fRef k b j [s]=.N:=by simp only[fRef,e,if_true,h41,if_neg h3]
     rw[this];exact .N h41
   ·have:fRef k b j [s]=.K .none:=by simp only[fRef,e,if_true,if_neg h41]
    rw[this];exact .K (.null (by lia))
  |false=>exact hU (by simp only[fRef,e]<;>rfl)
 ·obtain⟨s,rfl,o⟩:=hv.i1
  obtain⟨s',rfl,o'⟩:=hv'.i1
  obtain⟨_,e,s1⟩:=hs.i1
  cases e
  have e1:=sim_null s1
  have hU:Sim (h+1) (.U (.tup [.int 19,.int k,s.sv j,.int b,.int 0])) (.U (.tup [.int 19,.int k,s'.sv j,.int b,.int 0])):=sim_shape (js:=[j]) sh hv hv' hs 0 0
  simp only[fRef,←e1]
  split
  ·split
   ·split
    ·exact hU
    ·exact .N
   ·exact .K _
  ·exact hU
 ·obtain⟨s,rfl,o⟩:=hv.i1
  intro t ht
  have:t=s:=by simpa using ht
  subst this
  cases e:nullSt t with
  |true=>exact null_U e
  |false=>simp only[fRef,e]at hu;exact absurd hu (Bool.noConfusion (by assumption))
 ·obtain⟨s,rfl,o⟩:=hv.i1
  have hU:(fRef k b j [s])=.U (.tup [.int 19,.int k,s.sv j,.int b,.int 0]):=by
   revert hu
   simp only[fRef]
   split
   ·split
    ·split
     ·exactλ_=>rfl
     ·exactλq=>by exact Bool.noConfusion (q)
    ·exactλq=>by exact Bool.noConfusion (q)
   ·exactλ_=>rfl
  rw[hU]
  have:=sh.fo (h+2) (svs [j] [s]) ls 0 0 rfl hF (svs_all (λj s o=>o.tp) hv) hl (λm=>fault_cv (m+5) b1)
  rw[show fl1 0=[]from rfl,List.append_nil]at this
  exact this
 ·obtain⟨s,rfl,o⟩:=hv.i1
  obtain⟨m1,rfl,p1⟩:=hm.i1
  have hb3:b=2\/b=3\/b=8:=by lia
  have hN:∀c g,c=1\/c=2->nullSt s=true->∃st v,(∀m r3 r4 r5,run fns (m+3) 49 [rw6 19 k (.int b) r3 r4 r5,.lst [mn c .none g]]=M.pure (mn st v 0))/\MeanOk k (fRef k b j [s]) (mn st v 0):=by
   intro c g hc e
   by_cases h41:k=41
   ·subst h41
    rcases hb with rfl|rfl
    ·refine⟨2,.none,λm r3 r4 r5=>meant_ref_C (m+2) (.inl rfl) hc,?_⟩
     simp only[fRef,e,if_true]
     exact .N 0
    ·refine⟨0,.none,λm r3 r4 r5=>meant_cast_C (m+2) hc,?_⟩
     simp only[fRef,e,if_true]
     exact .V _ 0 rfl
   ·refine⟨1,.none,λm r3 r4 r5=>meant_ref_so (m+2) hb3 hc (by lia),?_⟩
    simp only[fRef,e,if_true,if_neg h41]
    exact .K _ 0
  have hO:nullSt s=false->(∀m r3 r4 r5,run fns (m+3) 49 [rw6 19 k (.int b) r3 r4 r5,.lst [m1]]=M.pure (mn 0 (.int 0) 0))->∃st v,(∀m r3 r4 r5,run fns (m+3) 49 [rw6 19 k (.int b) r3 r4 r5,.lst [m1]]=M.pure (mn st v 0))/\MeanOk k (fRef k b j [s]) (mn st v 0):=by
   intro e hr
   refine⟨0,.int 0,hr,?_⟩
   simp only[fRef,e]
   exact .U _ 0 0
  cases p1 with
  |K v g=>
   cases o.ok with
   |num r _ _=>cases r<;>contradiction
   |str _=>exact hO rfl (λm r3 r4 r5=>meant_ref_s (m+2) hb3 (.inl rfl))
   |null q=>exact hN 1 g (.inl rfl) rfl
  |N g=>exact hN 2 g (.inr rfl) rfl
  |U S a g=>exact hO rfl (λm r3 r4 r5=>meant_ref_U (m+2) hb3)
  |V S g q=>exact hO rfl (λm r3 r4 r5=>meant_ref_U (m+2) hb3)
 ·obtain⟨s,rfl,o⟩:=hv.i1
  have hlen:Ws.length=1:=by rw[hF.len];rfl
  exact sh.fa (g+2) Ws _ 0 _ hlen hF hW (λm=>fref_fld hb hk hj o m)
 ·obtain⟨a,rfl⟩:=ln1 hn
  exact⟨_,rfl⟩
theorem ok14(o:StaOk h 14 s):s=.K .none:=by
 cases o with
 |K o=>
  cases o with
  |num r _ _=>exact nomatch r
  |null _=>rfl
 |N q=>exact absurd q (nofun)
 |U _ _ _ _ q=>exact absurd rfl q
theorem fnul_fld(hk:k=13\/k=12\/k=41)(m:Nat):run fns (m+7) 34 [.tup [.int 19,.int k,con 14 .none,.int 8,.int 0]]=M.pure ((fNul k []).sv k):=by
 by_cases h41:k=41
 ·subst h41;exact conv_null_C (m+3)
 ·simp only[fNul,if_neg h41]
  exact conv_null_s (m+3) rfl (by lia)
theorem gen_nul(hk:k=13\/k=12\/k=41):Fun 19 k (.int 8) [14] (λcs=>nd1 (fCv k 8) cs 0) (fNul k):=by
 have sh:Shape 19 k (.int 8) (nd1 (fCv k 8)) 1:=shape_cv rfl
 have hU:(fNul k []).isU=false:=by unfold fNul;split<;>rfl
 refine⟨λm cs r3 r4 r5 ck hn=>?_,λh sts m lo hv hlo=>?_,λh sts hv hh=>?_,λh sts hv m=>?_,λh sts hh hv m=>?_,λh sts hh hv=>?_,λh sts sts' hh hv hv' hs=>?_,λh sts hv hu=>?_,λh sts ls hh hv hF hl hn hu=>?_,λh sts ms hh hv hm=>?_,λh g sts Ws hh hv hF hW=>?_,λWs hn=>?_,λq=>absurd q (nofun)⟩
 ·obtain⟨a,rfl⟩:=ln1 hn
  exact put_cv m rfl
 ·obtain⟨s,rfl,o⟩:=hv.i1
  rcases hlo with rfl|rfl
  ·exact asc_conv m rfl
  ·exact asc_loose (m+1)
 ·exact(sh.pd (2*h+2) _ 0 (svs_len hv) (svs_all (λj s o=>o.pd) hv)).le (by lia)
 ·obtain⟨s,rfl,o⟩:=hv.i1
  exact fault_cv (m+5) rfl
 ·obtain⟨s,rfl,o⟩:=hv.i1
  cases ok14 o
  exact fnul_fld hk m
 ·by_cases h41:k=41
  ·rw[show fNul k sts=.N from if_pos h41];exact .N h41
  ·rw[show fNul k sts=.K .none from if_neg h41];exact .K (.null (by lia))
 ·show Sim (h+1) (fNul k []) (fNul k [])
  unfold fNul
  split
  ·exact .N
  ·exact .K _
 ·obtain⟨s,rfl,o⟩:=hv.i1
  cases ok14 o
  intro t ht
  have:t=.K .none:=by simpa using ht
  subst this;rfl
 ·exact absurd (hU.symm.trans hu) (Bool.false_ne_true)
 ·obtain⟨s,rfl,o⟩:=hv.i1
  cases ok14 o
  obtain⟨m1,rfl,p1⟩:=hm.i1
  cases p1 with
  |K v g=>
  by_cases h41:k=41
  ·subst h41
   exact⟨2,.none,λm r3 r4 r5=>meant_ref_C (m+2) (.inr rfl) (.inl rfl),.N 0⟩
  ·refine⟨1,.none,λm r3 r4 r5=>meant_ref_so (m+2) (.inr (.inr rfl)) (.inl rfl) (by lia),?_⟩
   simp only[fNul,if_neg h41]
   exact .K _ 0
 ·obtain⟨s,rfl,o⟩:=hv.i1
  cases ok14 o
  have hlen:Ws.length=1:=by rw[hF.len];rfl
  exact sh.fa (g+2) Ws _ 0 _ hlen hF hW (λm=>fnul_fld hk m)
 ·obtain⟨a,rfl⟩:=ln1 hn
  exact⟨_,rfl⟩
end
theorem lim_lt{α β:Type}{f:α->β}{l:List α}(h:l.length<=1000):(l.map f).length<lim:=by rw[List.length_map];exact Nat.lt_of_le_of_lt h (Nat.le_of_ble_eq_true rfl)
theorem F2_mm{α β γ δ:Type}{R:α->β->Prop}{a:γ->α}{b:δ->β}{js:List γ}{qs:List δ}(H:F2 (λj q=>R (a j) (b q)) js qs):F2 R (js.map a) (qs.map b):=by
 induction H with
 |nil=>exact .nil
 |cons h _ ih=>exact .cons h ih
theorem F2.drop{α β:Type}{R:α->β->Prop}{as:List α}{bs:List β}(f:F2 R as bs):∀n:Nat,F2 R (as.drop n) (bs.drop n):=by
 induction f with
 |nil=>exactλn=>by rw[List.drop_nil,List.drop_nil];exact .nil
 |cons r f ih=>
  intro n
  cases n with
  |zero=>exact .cons r f
  |succ n=>exact ih n
theorem F2.take{α β:Type}{R:α->β->Prop}{as:List α}{bs:List β}(f:F2 R as bs):∀n:Nat,F2 R (as.take n) (bs.take n):=by
 induction f with
 |nil=>exactλn=>by rw[List.take_nil,List.take_nil];exact .nil
 |cons r f ih=>
  intro n
  cases n with
  |zero=>exact .nil
  |succ n=>exact .cons r (ih n)
theorem F2.app{α β:Type}{R:α->β->Prop}{as as':List α}{bs bs':List β}(f:F2 R as bs)(g:F2 R as' bs'):F2 R (as++as') (bs++bs'):=by
 induction f with
 |nil=>exact g
 |cons h _ ih=>exact .cons h ih
inductive Al{α:Type}(P:α->Prop):List α->Prop
 |nil:Al P []
 |cons {a:α} {as:List α}:P a->Al P as->Al P (a::as)
noncomputable abbrev mkV(a:Str):V:=con 13 (.str a)
noncomputable abbrev nodC(xs:List V):V:=.tup [.int 26,.int 13,.tup xs]
noncomputable def conT{α:Type}(mk:Str->α)(t:Str)(r:List (α×Option Str)):List (α×Option Str):=match r with
 |[]=>[(mk t,some t)]
 |w::r=>match w.2 with
  |some l=>(mk (t++l),some (t++l))::r
  |none=>(mk t,some t)::w::r
noncomputable def consM{α:Type}(mk:Str->α)(q:α×Option Str)(r:List (α×Option Str)):List (α×Option Str):=match q.2 with
 |some t=>conT mk t r
 |none=>q::r
noncomputable def mrg{α:Type}(mk:Str->α)(ps:List (α×Option Str)):List (α×Option Str):=ps.foldr (consM mk) []
noncomputable def tsum{α:Type}(ws:List (α×Option Str)):Nat:=(ws.map λw=>oL w.2).sum
noncomputable def catAll(ss:List Str):Str:=ss.foldr (·++·) Str.empty
inductive Ns{α:Type}(mk:Str->α):List (α×Option Str)->Prop
 |nil:Ns mk []
 |non {r:List (α×Option Str)} (x:α):Ns mk r->Ns mk ((x,none)::r)
 |one (a:Str):Ns mk [(mk a,some a)]
 |txt {r:List (α×Option Str)} (a:Str) (x:α):Ns mk ((x,none)::r)->Ns mk ((mk a,some a)::(x,none)::r)
section
variable{α β:Type}{mk:Str->α}{mk':Str->β}{t:Str}{r ps:List (α×Option Str)}
theorem conT_c{C:List (α×Option Str)->List (α×Option Str)->Prop}(h0:C [] [(mk t,some t)])(h1:∀x r,C ((x,none)::r) ((mk t,some t)::(x,none)::r))(h2:∀x l r,C ((x,some l)::r) ((mk (t++l),some (t++l))::r)):C r (conT mk t r):=by
 rcases r with _|⟨⟨x,_|l⟩,r⟩
 ·exact h0
 ·exact h1 x r
 ·exact h2 x l r
theorem conT_conT(l:Str):conT mk l (conT mk t r)=conT mk (l++t) r:=
 conT_c (C:=λr c=>conT mk l c=conT mk (l++t) r) rfl (λ_ _=>rfl) λx m r=>by
  show(mk (l++(t++m)),some (l++(t++m)))::r=(mk (l++t++m),some (l++t++m))::r
  rw[app_assoc]
theorem mrg_all{P:α×Option Str->Prop}(hm:∀a,P (mk a,some a))(h:∀q∈ps,P q):∀q∈mrg mk ps,P q:=by
 induction ps with
 |nil=>exact h
 |cons q ps ih=>
  obtain⟨h1,h2⟩:=List.forall_mem_cons.mp h
  have ih:=ih h2
  obtain⟨x,_|t⟩:=q
  ·exact List.forall_mem_cons.mpr ⟨h1,ih⟩
  ·exact conT_c (C:=λr c=>(∀q∈r,P q)->∀q∈c,P q) (λ_=>List.forall_mem_cons.mpr ⟨hm t,λ_ h=>nomatch h⟩) (λ_ _ h=>List.forall_mem_cons.mpr ⟨hm t,h⟩) (λ_ l _ h=>List.forall_mem_cons.mpr ⟨hm (t++l),(List.forall_mem_cons.mp h).2⟩) ih
theorem mrg_rel{Q:α->β->Prop}(hm:∀a,Q (mk a) (mk' a)){qs:List (β×Option Str)}(f:F2 (λp q=>p.2=q.2/\Q p.1 q.1) ps qs):F2 (λp q=>p.2=q.2/\Q p.1 q.1) (mrg mk ps) (mrg mk' qs):=by
 induction f with
 |nil=>exact .nil
 |@cons p q ps qs h _ ih=>
  obtain⟨x,a⟩:=p
  obtain⟨y,b⟩:=q
  obtain⟨e,h⟩:=h
  cases e
  cases a with
  |none=>exact .cons ⟨rfl,h⟩ ih
  |some t=>
   show F2 _ (conT mk t (mrg mk ps)) (conT mk' t (mrg mk' qs))
   generalize mrg mk ps=r at ih ⊢
   generalize mrg mk' qs=r' at ih ⊢
   cases ih with
   |nil=>exact .cons ⟨rfl,hm t⟩ .nil
   |@cons p q r r' g f=>
    obtain⟨x,a⟩:=p
    obtain⟨y,b⟩:=q
    obtain⟨e,g⟩:=g
    cases e
    cases a with
    |none=>exact .cons ⟨rfl,hm t⟩ (.cons ⟨rfl,g⟩ f)
    |some l=>exact .cons ⟨rfl,hm (t++l)⟩ f
theorem mrg_len:(mrg mk ps).length<=ps.length:=by
 induction ps with
 |nil=>exact Nat.le_refl _
 |cons q ps ih=>
  obtain⟨x,_|t⟩:=q
  ·exact Nat.succ_le_succ ih
  ·exact Nat.le_trans (conT_c (C:=λr c=>c.length<=r.length+1) (Nat.le_refl _) (λ_ _=>Nat.le_refl _) (λ_ _ _=>Nat.le_succ _)) (Nat.succ_le_succ ih)
theorem mrg_ne(h:ps≠[]):mrg mk ps≠[]:=by
 rcases ps with _|⟨⟨x,_|t⟩,ps⟩
 ·exact absurd rfl h
 ·exact nofun
 ·exact conT_c (C:=λ_ c=>c≠[]) nofun (λ_ _=>nofun) (λ_ _ _=>nofun)
theorem mrg_sum:tsum (mrg mk ps)=tsum ps:=by
 induction ps with
 |nil=>rfl
 |cons q ps ih=>
  obtain⟨x,_|t⟩:=q
  ·exact congrArg (0+·) ih
  ·exact(conT_c (mk:=mk) (C:=λr c=>tsum c=t.length+tsum r) rfl (λ_ _=>rfl) λ_ l r=>(congrArg (·+tsum r) (app_len t l)).trans (Nat.add_assoc ..)).trans (congrArg (t.length+·) ih)
theorem mrg_none{w:α×Option Str}(h:w∈ps)(e:w.2=none):w∈mrg mk ps:=by
 induction ps with
 |nil=>exact h
 |cons q ps ih=>
  rcases List.mem_cons.mp h with rfl|h'
  ·unfold mrg consM
   rw[List.foldr_cons,e]
   exact .head _
  ·obtain⟨x,_|t⟩:=q
   ·exact .tail _ (ih h')
   ·refine conT_c (C:=λr c=>w∈r->w∈c) (λh=>nomatch h) (λ_ _ h=>.tail _ h) (λ_ l _ h=>?_) (ih h')
    rcases List.mem_cons.mp h with rfl|h
    ·exact nomatch e
    ·exact .tail _ h
theorem mrg_Ns:Ns mk (mrg mk ps):=by
 induction ps with
 |nil=>exact .nil
 |cons q ps ih=>
  obtain⟨x,_|t⟩:=q
  ·exact .non x ih
  ·show Ns mk (conT mk t (mrg mk ps))
   generalize mrg mk ps=r at ih ⊢
   cases ih with
   |nil=>exact .one t
   |non x h=>exact .txt t x (.non x h)
   |one a=>exact .one (t++a)
   |txt a x h=>exact .txt (t++a) x h
theorem Ns.mrg(n:Ns mk r):Mine.mrg mk r=r:=by
 induction n with
 |nil=>rfl
 |non x _ ih=>exact congrArg ((x,none)::·) ih
 |one a=>rfl
 |txt a x _ ih=>exact congrArg (conT mk a) ih
theorem mrg_flat{f:α->List Int}(hf:∀a,f (mk a)=[])(hq:∀q∈ps,q.2.isSome=true->f q.1=[]):((mrg mk ps).map λw=>f w.1).flatten=(ps.map λw=>f w.1).flatten:=by
 have hm:=λps=>mrg_all (mk:=mk) (ps:=ps) (P:=λq=>q.2.isSome=true->f q.1=[]) (λa _=>hf a)
 induction ps with
 |nil=>rfl
 |cons q ps ih=>
  obtain⟨h1,h2⟩:=List.forall_mem_cons.mp hq
  have ih:=ih h2
  obtain⟨x,_|t⟩:=q
  ·exact congrArg (f x++·) ih
  ·refine Eq.trans ?_ (ih.trans (by rw[List.map_cons,List.flatten_cons,h1 rfl];rfl))
   refine conT_c (C:=λr c=>(∀q∈r,q.2.isSome=true->f q.1=[])->(c.map λw=>f w.1).flatten=(r.map λw=>f w.1).flatten) (λ_=>?_) (λx r _=>?_) (λx l r h=>?_) (hm _ h2)
   ·rw[List.map_cons,List.flatten_cons,hf];rfl
   ·rw[List.map_cons,List.flatten_cons,hf];rfl
   ·rw[List.map_cons,List.flatten_cons,List.map_cons,List.flatten_cons,hf,h _ (.head _) rfl]
theorem mrg_txt(h:ps≠[])(hs:∀q∈ps,q.2.isSome=true):∃L,L=catAll (ps.map λq=>q.2.getD Str.empty)/\∀r,ps.foldr (consM mk) r=conT mk L r:=by
 induction ps with
 |nil=>exact absurd rfl h
 |cons q ps ih=>
  obtain⟨h1,h2⟩:=List.forall_mem_cons.mp hs
  obtain⟨x,_|t⟩:=q
  ·exact nomatch h1
  ·cases ps with
   |nil=>exact⟨t,(app_e t).symm,λr=>rfl⟩
   |cons q ps=>
    obtain⟨L,e,g⟩:=ih nofun h2
    refine⟨t++L,congrArg (t++·) e,λr=>?_⟩
    show conT mk t ((q::ps).foldr (consM mk) r)=_
    rw[g,conT_conT]
end
noncomputable def lst(d:Option Str)(r:List (V×Option Str)):Option Str:=r.foldl (λ_ w=>w.2) d
theorem catS_mrg(ps:List (V×Option Str)):(∀acc,ps.foldl catS (acc,none)=(acc++(mrg mkV ps).map (·.1),lst none (mrg mkV ps)))/\∀a l,ps.foldl catS (a++[mkV l],some l)=(a++(conT mkV l (mrg mkV ps)).map (·.1),lst none (conT mkV l (mrg mkV ps))):=by
 induction ps with
 |nil=>exact⟨λacc=>congrArg (λx=>(x,none)) (List.append_nil acc).symm,λa l=>rfl⟩
 |cons q ps ih=>
  obtain⟨x,_|t⟩:=q
  ·refine⟨λacc=>(ih.1 (acc++[x])).trans ?_,λa l=>(ih.1 (a++[mkV l]++[x])).trans ?_⟩
   ·rw[List.append_assoc];rfl
   ·rw[List.append_assoc,List.append_assoc];rfl
  ·refine⟨λacc=>ih.2 acc t,λa l=>?_⟩
   show ps.foldl catS ((a++[mkV l]).dropLast++[mkV (l++t)],some (l++t))=(a++(conT mkV l (conT mkV t (mrg mkV ps))).map (·.1),lst none (conT mkV l (conT mkV t (mrg mkV ps))))
   rw[List.dropLast_concat,conT_conT]
   exact ih.2 a (l++t)
noncomputable def catSt(R:List (V×Option Str)):Sta:=match R with
 |[]=>.U (nodC [])
 |q::r=>match r with
  |[]=>(match q.2 with
   |some l=>.K (.str l)
   |none=>.U (nodC [q.1]))
  |w::r=>.U (nodC (q.1::w.1::r.map (·.1)))
theorem catSt_i(R:List (V×Option Str)):(∃x l,R=[(x,some l)]/\catSt R=.K (.str l))\/catSt R=.U (nodC (R.map (·.1))):=by
 rcases R with _|⟨⟨x,_|l⟩,_|⟨w,r⟩⟩
 ·exact .inr rfl
 ·exact .inr rfl
 ·exact .inr rfl
 ·exact .inl ⟨x,l,rfl,rfl⟩
 ·exact .inr rfl
theorem catSt_rel{Q:V×Option Str->V×Option Str->Prop}(hq:∀p q,Q p q->p.2=q.2){R R':List (V×Option Str)}(f:F2 Q R R'):(∃v,catSt R=.K v/\catSt R'=.K v)\/(catSt R=.U (nodC (R.map (·.1)))/\catSt R'=.U (nodC (R'.map (·.1)))):=by
 cases f with
 |nil=>exact .inr ⟨rfl,rfl⟩
 |@cons p q r r' h f=>
  obtain⟨x,a⟩:=p
  obtain⟨y,b⟩:=q
  have e:a=b:=hq _ _ h
  subst e
  cases f with
  |nil=>cases a with
   |none=>exact .inr ⟨rfl,rfl⟩
   |some l=>exact .inl ⟨_,rfl,rfl⟩
  |cons _ _=>exact .inr ⟨rfl,rfl⟩
theorem catR_St(ps:List (V×Option Str)):catR 13 ps=(catSt (mrg mkV ps)).sv 13:=by
 have n:=mrg_Ns (mk:=mkV) (ps:=ps)
 show(if(ps.foldl catS ([],none)).1.length=1/\(ps.foldl catS ([],none)).2.isSome=true then(ps.foldl catS ([],none)).1.headD .none else nodC (ps.foldl catS ([],none)).1)=_
 rw[(catS_mrg ps).1 []]
 generalize mrg mkV ps=R at n ⊢
 cases n with
 |nil=>rfl
 |non x h=>cases h<;>rfl
 |one a=>rfl
 |txt a x h=>rfl
section
variable{k:Int}{h g d:Nat}{S:V}
inductive Le3{α:Type}:List α->Prop
 |a (x:α):Le3 [x]
 |b (x y:α):Le3 [x,y]
 |c (x y z:α):Le3 [x,y,z]
theorem le3{α:Type}{l:List α}(h:l≠[])(h2:l.length<=3):Le3 l:=by
 rcases l with _|⟨x,_|⟨y,_|⟨z,_|⟨w,l⟩⟩⟩⟩
 ·exact absurd rfl h
 ·exact .a x
 ·exact .b x y
 ·exact .c x y z
 ·exact absurd h2 (Nat.not_le_of_gt (Nat.le_add_left 4 _))
theorem cat_fa{Ws xs:List V}(h1:Ws≠[])(h2:Ws.length<=3)(hF:F2 (FA h) Ws xs)(hf:∀m,run fns (m+7) 34 [.tup [.int 26,.int k,.tup xs]]=M.pure S):FA (h+1) (.tup [.int 26,.int k,.tup Ws]) S:=by
 cases le3 h1 h2 with
 |a a=>
  obtain⟨b,rfl,p⟩:=hF.i1
  exact fa_1 rfl (λm=>kids_cat1 m) p (λm=>with_cat1 m) hf
 |b a a'=>
  obtain⟨b,b',rfl,p,p'⟩:=hF.i2
  exact fa_2 rfl (λm=>kids_cat2 m) p p' (λm=>with_cat2 m) hf
 |c a a' a''=>
  obtain⟨b,b',b'',rfl,p,p',p''⟩:=hF.i3
  exact fa_3 rfl (λm=>kids_cat3 m) p p' p'' (λm=>with_cat3 m) hf
theorem cat_fo{xs:List V}{ls:List (List Int)}(h1:xs≠[])(h2:xs.length<=3)(hF:F2 (FO h) xs ls)(ht:∀x∈xs,Tp x)(hl:∀l∈ls,l.length<100000):FO (h+1) (.tup [.int 26,.int k,.tup xs]) ls.flatten:=by
 have hf:∀m,run fns (m+6) 23 [.tup [.int 26,.int k,.tup xs]]=M.pure (.int 0):=λm=>fault_o (m+5) (c:=26) rfl rfl rfl
 have hb:=fl_bd9 hl (Nat.le_trans (Nat.le_of_eq hF.len.symm) (Nat.le_trans h2 (by decide)))
 cases xs with
 |nil=>exact absurd rfl h1
 |cons a xs=>
  obtain⟨c,q,rfl,_⟩:=ht a (.head _)
  exact(fo_row hF hb (Nat.lt_of_lt_of_le h2 (by decide)) hf).of (List.append_nil _)
theorem cat_um{xs us:List V}(h1:xs≠[])(h2:xs.length<=3)(hF:F2 (UM h) xs us)(ht:∀x∈xs,Tp x):UM (h+2) (.tup [.int 26,.int k,.tup xs]) (.tup [.int 26,.int k,.tup us]):=by
 cases le3 h1 h2 with
 |a a=>
  obtain⟨l,rfl,p⟩:=hF.i1
  obtain⟨c,q,rfl,_⟩:=ht a (.head _)
  exact um_cat (um_t1 p)
 |b a a'=>
  obtain⟨l,l',rfl,p,p'⟩:=hF.i2
  obtain⟨c,q,rfl,_⟩:=ht a (.head _)
  obtain⟨c',q',rfl,_⟩:=ht a' (.tail _ (.head _))
  exact um_cat (um_t2 p p')
 |c a a' a''=>
  obtain⟨l,l',l'',rfl,p,p',p''⟩:=hF.i3
  obtain⟨c,q,rfl,_⟩:=ht a (.head _)
  obtain⟨c',q',rfl,_⟩:=ht a' (.tail _ (.head _))
  obtain⟨c'',q'',rfl,_⟩:=ht a'' (.tail _ (.tail _ (.head _)))
  exact um_cat (um_t3 p p' p'')
theorem cat_pd{xs:List V}(hx:∀x∈xs,Pd d x):Pd (d+2) (.tup [.int 26,.int k,.tup xs]):=by
 refine Pd.tup (d:=d+1) ?_
 intro x h
 simp only[List.mem_cons,List.not_mem_nil,or_false]at h
 rcases h with rfl|rfl|rfl
 ·exact pd_int
 ·exact pd_int
 ·exact Pd.tup hx
end
noncomputable def txv:V->Str
 |.str s=>s
 |_=>Str.empty
inductive TxV:V->Prop
 |n:TxV .none
 |s (s:Str):TxV (.str s)
section
variable{sg r3 r4 r5:V}{vs ms:List V}
theorem join_all(ss:List Str):Str.join Str.empty ss=catAll ss:=by
 induction ss with
 |nil=>rfl
 |cons s ss ih=>cases ss with
  |nil=>exact(app_e s).symm
  |cons t ss=>
   show s++Str.empty++Str.join Str.empty (t::ss)=s++catAll (t::ss)
   rw[app_e,ih]
theorem strs_all(ss:List Str):strsOf (ss.map V.str)=some ss:=by
 induction ss with
 |nil=>rfl
 |cons s ss ih=>
  show(match strsOf (ss.map V.str)with|some t=>some (s::t)|Option.none=>Option.none)=_
  rw[ih]
inductive Txs(cond:V->M Bool)(elt:V->M V)(vs:List V):Prop
 |mk (ss:List Str) (e:compL cond elt vs=M.pure (ss.map V.str)) (a:catAll ss=catAll (vs.map txv)) (s:(ss.map Str.length).sum<=(vs.map λv=>(txv v).length).sum) (l:ss.length<=vs.length):Txs cond elt vs
theorem txs_ok{cond:V->M Bool}{elt:V->M V}(h0:cond .none=M.pure false)(h1:∀s,cond (.str s)=M.pure true)(he:∀v,elt v=M.pure v)(hv:Al TxV vs):Txs cond elt vs:=by
 induction hv with
 |nil=>exact⟨[],rfl,rfl,Nat.le_refl _,Nat.le_refl _⟩
 |@cons v vs h _ ih=>
  obtain⟨ss,e,a,s,l⟩:=ih
  cases h with
  |n=>
   refine⟨ss,?_,a.trans (e_app _).symm,Nat.le_trans s (Nat.le_add_left _ _),Nat.le_succ_of_le l⟩
   show(cond .none).bind _=_
   rw[h0];exact e
  |s t=>
   refine⟨t::ss,?_,congrArg (t++·) a,Nat.add_le_add_left s _,Nat.succ_le_succ l⟩
   show(cond (.str t)).bind _=_
   rw[h1]
   show(elt (.str t)).bind _=_
   rw[he,M.pure_bind,e];rfl
theorem in_false{bs:List Bool}{b:Bool}(h:(bs.all id)=!b):cmpV .In (.bool false) (.lst (bs.map V.bool))=some b:=by
 have hp:V.plains (bs.map V.bool)=true:=by
  induction bs generalizing b with
  |nil=>rfl
  |cons x bs ih=>exact ih (b:=!(bs.all id)) (Bool.not_not _).symm
 have ha:((bs.map V.bool).any λy=>y.beq (.bool false))=b:=by
  induction bs generalizing b with
  |nil=>cases b<;>first|rfl|exact nomatch h
  |cons x bs ih=>
   have q:=ih (b:=!(bs.all id)) (Bool.not_not _).symm hp
   show((x==false)||((bs.map V.bool).any λy=>y.beq (.bool false)))=b
   rw[q]
   have h:(x&&bs.all id)=!b:=h
   revert h
   cases x<;>cases bs.all id<;>cases b<;>decide
 have:cmpV .In (.bool false) (.lst (bs.map V.bool))=some ((bs.map V.bool).any λy=>y.beq (.bool false)):=if_pos ⟨by rw[hp];rfl,Nat.zero_le _⟩
 rw[this,ha]
noncomputable abbrev qE(sg r3 r4 r5:V)(ms:List V)(p:Slot):Env':=[.val (rw6 26 13 sg r3 r4 r5),.val (.lst ms),.val (.int 26),.val (.int 13),.val sg,p,.none,.none,.none,.none,.none,.none,.none]
inductive Mv:V->Bool->V->Prop
 |mk (c:Int) (v:V) (g:Int):Mv (mn c v g) (c==1) v
theorem mv_bs{Φ:Nat->List V->M V}{bs:List Bool}(h:F2 (λm b=>∃v,Mv m b v) ms bs)(hl:ms.length<=lim):evE Φ (qE sg r3 r4 r5 ms .none) (.comp 10 (.cmp .Eq (.sub (.loc 10) (.int 0)) (.int 1)) (.loc 1) .nil)=M.pure (.lst (bs.map V.bool)):=by
 refine pv_comp rfl (it_lst hl) (by rw[List.length_map,←h.len];exact hl) ?_
 induction h with
 |nil=>exact .nil
 |@cons m b ms bs p _ ih=>obtain⟨v,⟨c,v,g⟩⟩:=p;exact .cons rfl (ih (Nat.le_of_succ_le hl))
theorem meant_catU{bs:List Bool}(h:F2 (λm b=>∃v,Mv m b v) ms bs)(hl:ms.length<=lim)(hb:bs.all id=false)(n:Nat):run fns (n+1) 49 [rw6 26 13 sg r3 r4 r5,.lst ms]=M.pure (mn 0 (.int 0) 0):=
 oC f_law_meant (.m 30 (.lst (bs.map V.bool))<|.b 0 true .e) (λ_ ez=>ai (mv_bs (Φ:=run fns n) (sg:=sg) (r3:=r3) (r4:=r4) (r5:=r5) h hl)<|ai (in_false (b:=true) hb) ez)
theorem meant_cat(h:F2 (λm v=>Mv m true v) ms vs)(hv:Al TxV vs)(hl:ms.length<=1000)(hs:(vs.map λv=>(txv v).length).sum<=1000000)(n:Nat):run fns (n+1) 49 [rw6 26 13 sg r3 r4 r5,.lst ms]=M.pure (mn 1 (.str (catAll (vs.map txv))) 0):=by
 have hl':ms.length<=lim:=Nat.le_trans hl (Nat.le_of_ble_eq_true rfl)
 have hb:F2 (λm b=>∃v,Mv m b v) ms (vs.map λ_=>true):=by
  clear hv hs hl hl'
  induction h with
  |nil=>exact .nil
  |cons p _ ih=>exact .cons ⟨_,p⟩ ih
 have hall:(vs.map λ_=>true).all id=true:=List.all_eq_true.mpr λb q=>by
  obtain⟨_,_,rfl⟩:=List.mem_map.mp q;rfl
 have e5:evE (run fns n) (qE sg r3 r4 r5 ms .none) (.comp 11 (.sub (.loc 11) (.int 1)) (.loc 1) .nil)=M.pure (.lst vs):=by
  refine pv_comp rfl (it_lst hl') (h.len▸hl') ?_
  clear hb hall hl hl' hv hs
  induction h with
  |nil=>exact .nil
  |@cons m v ms vs p _ ih=>
   refine .cons ?_ ih
   generalize hb:true=b at p
   cases p;rfl
 have lv:vs.length<=lim:=h.len▸hl'
 obtain⟨ss,e,a,s,l⟩:=txs_ok (cond:=λv=>(evC (run fns n) ((qE sg r3 r4 r5 ms (.val (.lst vs))).set 12 (.val v)) (.cons (.cmp .IsNot (.loc 12) .none) .nil)).bind λc=>(M.lift c.truth).bind M.pure) (elt:=λv=>evE (run fns n) ((qE sg r3 r4 r5 ms (.val (.lst vs))).set 12 (.val v)) (.loc 12)) rfl (λ_=>rfl) (λ_=>rfl) hv
 have ls:ss.length<=1000:=Nat.le_trans l (h.len▸hl)
 have ej:joinV (.lst (ss.map V.str))=some (.str (catAll (vs.map txv))):=by
  show(match strsOf (ss.map V.str)with|some ys=>if(ys.map Str.length).sum+ys.length<=1048576 then some (V.str (Str.join Str.empty ys))else Option.none|Option.none=>Option.none)=_
  rw[strs_all]
  refine(if_pos (Nat.le_trans (Nat.add_le_add (Nat.le_trans s hs) ls) (Nat.le_of_ble_eq_true rfl))).trans ?_
  rw[join_all,a]
 have e12:evE (run fns n) (qE sg r3 r4 r5 ms (.val (.lst vs))) (.join (.comp 12 (.loc 12) (.loc 5) (.cons (.cmp .IsNot (.loc 12) .none) .nil)))=M.pure (.str (catAll (vs.map txv))):=by
  show((M.lift (itemsV (.lst vs))).bind λxs=>(compL _ _ xs).bind λys=>M.lift (mkLst ys)).bind (λx=>M.lift (joinV x))=_
  rw[it_lst lv,M.lift_s,M.pure_bind,e,M.pure_bind,show mkLst (ss.map V.str)=some (.lst (ss.map V.str))from if_pos (Nat.le_of_lt (lim_lt ls)),M.lift_s,M.pure_bind,ej];rfl
 exact oC f_law_meant (.m 30 (.lst ((vs.map λ_=>true).map V.bool))<|.b 0 false<|.m 8 (.lst vs)<|.m 4 (.str (catAll (vs.map txv))) .e) (λ_ ez=>ai (mv_bs (Φ:=run fns n) (sg:=sg) (r3:=r3) (r4:=r4) (r5:=r5) hb hl')<|ai (in_false (b:=false) hall)<|ai e5<|ai e12 ez)
end
noncomputable def tx:Sta->Option Str
 |.K v=>some (txv v)
 |_=>none
noncomputable def itsV(js:List Int)(sts:List Sta):List (V×Option Str):=(svs js sts).zip (sts.map tx)
noncomputable def fCat(js:List Int)(sts:List Sta):Sta:=catSt (mrg mkV (itsV js sts))
structure It(h:Nat)(q:V×Option Str):Prop where
 t:Txt q.1 q.2
 fa:FA (h+1) q.1 q.1
 pd:Pd (2*h+3) q.1
 tp:Tp q.1
structure Its(h:Nat)(js:List Int)(sts:List Sta):Prop where
 all:∀q∈itsV js sts,It h q
 le:∀q∈itsV js sts,oL q.2<=4^(h+1)
 len:(itsV js sts).length=js.length
 fst:(itsV js sts).map (·.1)=svs js sts
 snd:(itsV js sts).map (·.2)=sts.map tx
section
variable{h g:Nat}{j:Int}{v:V}{s:Sta}{js:List Int}{sts sts':List Sta}
theorem mkV_pd{d:Nat}{a:Str}:Pd (d+1) (mkV a):=⟨rfl,Nat.succ_pos _⟩
theorem it_mk(a:Str):It h (mkV a,some a):=⟨txt_s,fa_con,mkV_pd,⟨_,_,rfl,Nat.le_of_ble_eq_true rfl⟩⟩
theorem ok_txt(hj:j=12\/j=13)(o:Okv h j v):TxV v/\(txv v).length<=4^(h+1):=by
 cases o with
 |num r _ _=>rcases hj with rfl|rfl<;>exact nomatch r
 |str l=>exact⟨.s _,l⟩
 |null _=>exact⟨.n,Nat.zero_le _⟩
theorem st_txt(hj:j=12\/j=13)(o:StaOk h j s):Txt (s.sv j) (tx s)/\oL (tx s)<=4^(h+1):=by
 cases o with
 |K o=>
  obtain⟨t,l⟩:=ok_txt hj o
  have n15:=o.ne15
  refine⟨?_,l⟩
  cases o with
  |num r _ _=>exact nomatch t
  |str _=>exact txt_s
  |null _=>
   have:=txt_n n15
   rw[str_e]at this
   exact this
 |N q=>rcases hj with rfl|rfl<;>exact nomatch q
 |U u _ _ _ _=>exact⟨txt_U u,Nat.zero_le _⟩
theorem its_ok(hv:F2 (StaOk h) js sts):(∀j∈js,j=12\/j=13)->Its h js sts:=by
 induction hv with
 |nil=>exactλ_=>⟨λq hq=>(nomatch hq),λq hq=>(nomatch hq),rfl,rfl,rfl⟩
 |@cons j s js sts o _ ih=>
  intro hj
  obtain⟨h1,h2⟩:=List.forall_mem_cons.mp hj
  obtain⟨a,b,c,d,e⟩:=ih h2
  have t:=st_txt h1 o
  exact⟨List.forall_mem_cons.mpr ⟨⟨t.1,o.fa,o.pd,o.tp⟩,a⟩,List.forall_mem_cons.mpr ⟨t.2,b⟩,congrArg Nat.succ c,congrArg (s.sv j::·) d,congrArg (tx s::·) e⟩
theorem its_rel{β:Type}{Q:V->β->Prop}(hv:F2 (StaOk h) js sts):∀{bs:List β},F2 Q (svs js sts) bs->F2 (λp q=>p.2=q.2/\Q p.1 q.1) (itsV js sts) (bs.zip (sts.map tx)):=by
 induction hv with
 |nil=>exactλf=>(show F2 Q [] _ from f).i0▸.nil
 |cons _ _ ih=>
  intro bs f
  obtain⟨b,bs',q,f',rfl⟩:=f.un
  exact .cons ⟨rfl,q⟩ (ih f')
theorem ts_le{l:List (V×Option Str)}{B:Nat}(h:∀q∈l,oL q.2<=B):tsum l<=l.length*B:=by
 induction l with
 |nil=>exact Nat.zero_le _
 |cons q l ih=>
  obtain⟨h1,h2⟩:=List.forall_mem_cons.mp h
  rw[List.length_cons,Nat.succ_mul,Nat.add_comm]
  exact Nat.add_le_add h1 (ih h2)
theorem p7(hh:h<=7):4^(h+1)<=65536:=(Nat.pow_le_pow_right (Nat.succ_pos _) (Nat.succ_le_succ hh):4^(h+1)<=4^8)
theorem small(hh:h<=7){l:List (V×Option Str)}(hl:l.length<=3)(hb:∀q∈l,oL q.2<=3*4^(h+1)):tsum l<=lim:=
 Nat.le_trans (ts_le hb) (Nat.le_trans (Nat.mul_le_mul hl (Nat.mul_le_mul_left 3 (p7 hh))) (by decide))
theorem cat_key(hh:h<=7)(ps:List (V×Option Str))(ht:∀p∈ps,Txt p.1 p.2)(hb:∀q∈ps,oL q.2<=3*4^(h+1))(hlen:ps.length<=3)(m:Nat):run fns (m+7) 34 [nodC (ps.map (·.1))]=M.pure ((catSt (mrg mkV ps)).sv 13):=
 (fold_cat (k:=13) (ps:=ps) ht (small hh hlen hb) (Nat.lt_of_le_of_lt hlen (by decide)) (m+3)).trans (congrArg M.pure (catR_St ps))
theorem le3B{a B:Nat}(h:a<=B):a<=3*B:=Nat.le_trans h (Nat.le_mul_of_pos_left B (Nat.succ_pos 2))
theorem cat_fld(hh:h<=7)(hn:js.length<=3)(hj:∀j∈js,j=12\/j=13)(hv:F2 (StaOk h) js sts)(m:Nat):run fns (m+7) 34 [nodC (svs js sts)]=M.pure ((fCat js sts).sv 13):=by
 have I:=its_ok hv hj
 rw[←I.fst]
 exact cat_key hh _ (λp hp=>(I.all p hp).t) (λp hp=>le3B (I.le p hp)) (I.len▸hn) m
structure Mg(h:Nat)(js:List Int)(sts:List Sta):Prop where
 ne:(mrg mkV (itsV js sts)).map (·.1)≠[]
 len:((mrg mkV (itsV js sts)).map (·.1)).length<=3
 all:∀q∈mrg mkV (itsV js sts),It h q
 fld:∀m,run fns (m+7) 34 [nodC ((mrg mkV (itsV js sts)).map (·.1))]=M.pure ((fCat js sts).sv 13)
theorem one_le{l:List (V×Option Str)}{B:Nat}(h:tsum l<=B):∀q∈l,oL q.2<=B:=by
 induction l with
 |nil=>exactλq hq=>nomatch hq
 |cons q l ih=>exact List.forall_mem_cons.mpr ⟨Nat.le_trans (Nat.le_add_right _ _) h,ih (Nat.le_trans (Nat.le_add_left _ _) h)⟩
theorem its_sum(I:Its h js sts)(hn:js.length<=3):tsum (itsV js sts)<=3*4^(h+1):=Nat.le_trans (ts_le I.le) (Nat.mul_le_mul_right _ (I.len▸hn))
theorem cat_ws(hh:h<=7)(hn:js.length<=3)(h0:js≠[])(hj:∀j∈js,j=12\/j=13)(hv:F2 (StaOk h) js sts):Mg h js sts:=by
 have I:=its_ok hv hj
 have hps:itsV js sts≠[]:=λe=>h0 (List.eq_nil_of_length_eq_zero (I.len.symm.trans (e▸rfl)))
 have hl:(mrg mkV (itsV js sts)).length<=3:=Nat.le_trans mrg_len (I.len▸hn)
 have all:=mrg_all (P:=It h) it_mk I.all
 refine⟨λe=>mrg_ne hps (List.map_eq_nil_iff.mp e),by rw[List.length_map];exact hl,all,λm=>?_⟩
 refine(cat_key hh _ (λp hp=>(all p hp).t) (one_le (Nat.le_trans (Nat.le_of_eq mrg_sum) (its_sum I hn))) hl m).trans ?_
 rw[mrg_Ns.mrg];rfl
theorem cat_ok(hh:h<=7)(hn:js.length<=3)(h0:js≠[])(hj:∀j∈js,j=12\/j=13)(hv:F2 (StaOk h) js sts):StaOk (h+1) 13 (fCat js sts):=by
 have w:=cat_ws hh hn h0 hj hv
 rcases catSt_i (mrg mkV (itsV js sts))with⟨x,l,e,q⟩|q
 ·rw[show fCat js sts=_ from q]
  refine .K (.str ?_)
  have s:=Nat.le_trans (Nat.le_of_eq (mrg_sum (mk:=mkV))) (its_sum (its_ok hv hj) hn)
  rw[e]at s
  exact Nat.le_trans (one_le s _ (.head _)) (by rw[Nat.pow_succ 4 (h+1)];lia)
 ·have f:=w.fld
  rw[show fCat js sts=_ from q]at f ⊢
  refine .U (unk_op rfl rfl) ⟨_,_,rfl,Nat.le_of_ble_eq_true rfl⟩ (cat_pd λx hx=>?_) (cat_fa w.ne w.len (F2_map λq hq=>(w.all q hq).fa) f) nofun
  obtain⟨q,hq,rfl⟩:=List.mem_map.mp hx
  exact(w.all q hq).pd
theorem cat_nu(hj:∀j∈js,j=12\/j=13)(hv:F2 (StaOk h) js sts)(hu:(fCat js sts).isU=false):∀s∈sts,s.isK=true:=by
 intro s hs
 rcases catSt_i (mrg mkV (itsV js sts))with⟨x,l,e,_⟩|q
 ·obtain⟨q,hq,e2⟩:=List.mem_map.mp ((its_ok hv hj).snd▸List.mem_map.mpr ⟨s,hs,rfl⟩:tx s∈(itsV js sts).map (·.2))
  have:q.2.isSome=true:=by
   cases e3:q.2 with
   |some _=>rfl
   |none=>
    have:=mrg_none (mk:=mkV) hq e3
    rw[e]at this
    rw[List.mem_singleton.mp this]at e3;exact nomatch e3
  rw[e2]at this
  cases s with
  |K v=>rfl
  |_=>exact nomatch this
 ·rw[show fCat js sts=_ from q]at hu;exact nomatch hu
theorem zip_z{ls:List (List Int)}(hz:F2 (λ(s:Sta)(l:List Int)=>s.isU=false->l=[]) sts ls):∀q∈ls.zip (sts.map tx),q.2.isSome=true->q.1=[]:=by
 induction hz with
 |nil=>exactλq hq=>nomatch hq
 |@cons s l sts ls h _ ih=>
  refine List.forall_mem_cons.mpr ⟨λe=>h ?_,ih⟩
  cases s with
  |K v=>rfl
  |_=>exact nomatch e
theorem zip_f{β:Type}{bs:List β}(h:bs.length=sts.length):(bs.zip (sts.map tx)).map (·.1)=bs:=List.map_fst_zip (by rw[List.length_map,h];exact Nat.le_refl _)
theorem F2_len(hv:F2 (StaOk h) js sts){β:Type}{Q:V->β->Prop}{bs:List β}(f:F2 Q (svs js sts) bs):bs.length=sts.length:=f.len.symm.trans ((svs_len hv).trans hv.len)
theorem cat_found(hh:h<=7)(hn:js.length<=3)(h0:js≠[])(hj:∀j∈js,j=12\/j=13)(hv:F2 (StaOk h) js sts){ls:List (List Int)}(hF:F2 (FO (h+2)) (svs js sts) ls)(hl:∀l∈ls,l.length<100000)(hz:F2 (λ(s:Sta)(l:List Int)=>s.isU=false->l=[]) sts ls)(hu:(fCat js sts).isU=true):
  FO (h+1+2) ((fCat js sts).sv 13) ls.flatten:=by
 have w:=cat_ws hh hn h0 hj hv
 rcases catSt_i (mrg mkV (itsV js sts))with⟨x,l,_,q⟩|q
 ·rw[show fCat js sts=_ from q]at hu;exact nomatch hu
 ·rw[show fCat js sts=_ from q]
  have r:=mrg_rel (mk:=mkV) (mk':=λ_=>[]) (λa=>fo_cons (h:=h+1) (k:=13) (s:=a) (g:=0) flt1) (its_rel hv hF)
  have fl:=mrg_flat (mk:=λ_=>[]) (f:=id) (λ_=>rfl) (zip_z hz)
  have hb:=mrg_all (mk:=λ_=>[]) (ps:=ls.zip (sts.map tx)) (P:=λq:List Int×Option Str=>q.1.length<100000) (λ_=>Nat.succ_pos _) (λq hq=>hl q.1 (List.of_mem_zip hq).1)
  have R:=cat_fo (k:=13) w.ne w.len (F2_mm (r.imp λ_ _ q=>q.2)) (λx hx=>?_) (λl hl'=>?_)
  ·refine R.of (fl.trans (congrArg List.flatten ?_))
   exact zip_f (F2_len hv hF)
  ·obtain⟨q,hq,rfl⟩:=List.mem_map.mp hx
   exact(w.all q hq).tp
  ·obtain⟨q,hq,rfl⟩:=List.mem_map.mp hl'
   exact hb q hq
end
section
variable{h:Nat}{js:List Int}{sts sts':List Sta}
theorem sim_txs(f:F2 (Sim h) sts sts'):sts.map tx=sts'.map tx:=by
 induction f with
 |nil=>rfl
 |@cons s t _ _ o _ ih=>
  rw[List.map_cons,List.map_cons,ih]
  cases o<;>rfl
theorem cat_umm(hh:h<=7)(hn:js.length<=3)(h0:js≠[])(hj:∀j∈js,j=12\/j=13)(hv:F2 (StaOk h) js sts){us:List V}(hU:F2 (UM (2*h+2)) (svs js sts) us):
  ((∃v,fCat js sts=.K v/\catSt (mrg mkV (us.zip (sts.map tx)))=.K v)\/(∃S T,fCat js sts=.U S/\catSt (mrg mkV (us.zip (sts.map tx)))=.U T/\UM (2*(h+1)+2) S (nodC ((mrg mkV (us.zip (sts.map tx))).map (·.1))))):=by
 have w:=cat_ws hh hn h0 hj hv
 have r:=mrg_rel (mk:=mkV) (mk':=mkV) (λa=>um_con3 um_s (h:=2*h+1)) (its_rel hv hU)
 rcases catSt_rel (λ_ _ q=>q.1) r with q|⟨q1,q2⟩
 ·exact .inl q
 ·refine .inr ⟨_,_,q1,q2,cat_um w.ne w.len (F2_mm (r.imp λ_ _ q=>q.2)) λx hx=>?_⟩
  obtain⟨q,hq,rfl⟩:=List.mem_map.mp hx
  exact(w.all q hq).tp
theorem cat_sim(hh:h<=7)(hn:js.length<=3)(h0:js≠[])(hj:∀j∈js,j=12\/j=13)(hv:F2 (StaOk h) js sts)(hv':F2 (StaOk h) js sts')(hs:F2 (Sim h) sts sts'):Sim (h+1) (fCat js sts) (fCat js sts'):=by
 obtain⟨us,a,b,c⟩:=svs_um hv hs
 have A:=cat_umm hh hn h0 hj hv a
 have B:=cat_umm hh hn h0 hj hv' b
 rw[←sim_txs hs]at B
 have hp:=mrg_all (mk:=mkV) (P:=λq:V×Option Str=>Pd (2*h+3) q.1) (λ_=>mkV_pd) (λq hq=>c q.1 (List.of_mem_zip hq).1:∀q∈us.zip (sts.map tx),_)
 rcases A with⟨v,e1,e2⟩|⟨S,T,e1,e2,u⟩<;>rcases B with⟨v',e3,e4⟩|⟨S',T',e3,e4,u'⟩
 ·rw[e1,e3,Sta.K.inj (e2.symm.trans e4)];exact .K _
 ·exact nomatch e2.symm.trans e4
 ·exact nomatch e2.symm.trans e4
 ·rw[e1,e3]
  refine .U u u' (cat_pd λx hx=>?_)
  obtain⟨q,hq,rfl⟩:=List.mem_map.mp hx
  exact hp q hq
end
section
variable{h g:Nat}{js:List Int}{vs ms:List V}{sts sts':List Sta}
theorem mv_k(hv:F2 (StaOk h) js sts):∀{ms:List V},F2 (λ(p:Int×Sta) m=>MeanOk p.1 p.2 m) (js.zip sts) ms->F2 (λm b=>∃v,Mv m b v) ms (sts.map Sta.isK):=by
 induction hv with
 |nil=>exactλf=>(show F2 _ [] _ from f).i0▸.nil
 |@cons j s js sts _ _ ih=>
  intro ms f
  obtain⟨m,ms',p,f',rfl⟩:=f.un
  refine .cons ?_ (ih f')
  have p:MeanOk j s m:=p
  cases p with
  |K v g=>exact⟨v,.mk 1 v g⟩
  |N g=>exact⟨_,.mk 2 _ g⟩
  |U S a g=>exact⟨_,.mk 0 _ g⟩
  |V S g _=>exact⟨_,.mk 0 _ g⟩
theorem mv_v(hv:F2 (Okv h) js vs):∀{ms:List V},F2 (λ(p:Int×Sta) m=>MeanOk p.1 p.2 m) (js.zip (vs.map Sta.K)) ms->F2 (λm v=>Mv m true v) ms vs:=by
 induction hv with
 |nil=>exactλf=>by rw[(show F2 _ [] _ from f).i0];exact .nil
 |@cons j v js vs _ _ ih=>
  intro ms f
  obtain⟨m,ms',p,f',rfl⟩:=f.un
  refine .cons ?_ (ih f')
  have p:MeanOk j (.K v) m:=p
  cases p with
  |K v g=>exact .mk 1 v g
theorem tx_v(hh:h<=7)(hv:F2 (Okv h) js vs):(∀j∈js,j=12\/j=13)->Al TxV vs/\(vs.map λv=>(txv v).length).sum<=js.length*65536:=by
 induction hv with
 |nil=>exactλ_=>⟨.nil,Nat.zero_le _⟩
 |@cons j v js vs o _ ih=>
  intro hj
  obtain⟨h1,h2⟩:=List.forall_mem_cons.mp hj
  obtain⟨a,b⟩:=ih h2
  obtain⟨t,l⟩:=ok_txt h1 o
  refine⟨.cons t a,?_⟩
  rw[List.length_cons,Nat.succ_mul,Nat.add_comm]
  exact Nat.add_le_add (Nat.le_trans l (p7 hh)) b
theorem its_some(hv:F2 (StaOk h) js sts)(hj:∀j∈js,j=12\/j=13){l:List (V×Option Str)}{ss:List Sta}(e:l.map (·.2)=ss.map tx)(hs:∀s∈ss,s.isK=true):∀q∈l,q.2.isSome=true:=by
 intro q hq
 obtain⟨s,h1,h2⟩:=List.mem_map.mp (e▸List.mem_map.mpr ⟨q,hq,rfl⟩:q.2∈ss.map tx)
 have k:=hs s h1
 rw[←h2]
 cases s with
 |K v=>rfl
 |_=>exact nomatch k
theorem fCat_K(h0:js≠[])(hj:∀j∈js,j=12\/j=13)(hv:F2 (StaOk h) js (vs.map Sta.K)):fCat js (vs.map Sta.K)=.K (.str (catAll (vs.map txv))):=by
 have I:=its_ok hv hj
 have hps:itsV js (vs.map Sta.K)≠[]:=λe=>h0 (List.eq_nil_of_length_eq_zero (I.len.symm.trans (e▸rfl)))
 obtain⟨L,e,g⟩:=mrg_txt (mk:=mkV) hps (its_some hv hj I.snd λs hs=>by obtain⟨v,_,rfl⟩:=List.mem_map.mp hs;rfl)
 have e2:(itsV js (vs.map Sta.K)).map (λq=>q.2.getD Str.empty)=vs.map txv:=by
  have:=congrArg (List.map λq:Option Str=>q.getD Str.empty) I.snd
  rw[List.map_map,List.map_map,List.map_map]at this
  exact this
 rw[←e2,←e]
 exact congrArg catSt (g [])
theorem cat_me{sg:V}(hh:h<=7)(hn:js.length<=3)(h0:js≠[])(hj:∀j∈js,j=12\/j=13)(hv:F2 (StaOk h) js sts){ms:List V}(hm:F2 (λ(p:Int×Sta) m=>MeanOk p.1 p.2 m) (js.zip sts) ms):
  ∃st v,(∀m r3 r4 r5,run fns (m+3) 49 [rw6 26 13 sg r3 r4 r5,.lst ms]=M.pure (mn st v 0))/\MeanOk 13 (fCat js sts) (mn st v 0):=by
 have k:=mv_k hv hm
 have lm:ms.length<=1000:=Nat.le_trans (Nat.le_of_eq (k.len.trans (List.length_map ..))) (Nat.le_trans (Nat.le_of_eq hv.len.symm) (Nat.le_trans hn (Nat.le_of_ble_eq_true rfl)))
 cases ha:allK sts with
 |false=>
  refine⟨0,.int 0,λm r3 r4 r5=>meant_catU k (Nat.le_trans lm (Nat.le_of_ble_eq_true rfl)) ((List.all_map ..).trans ha) (m+2),?_⟩
  rcases catSt_i (mrg mkV (itsV js sts))with⟨x,l,e,q⟩|q
  ·have:=List.all_eq_true.mpr (cat_nu hj hv (by rw[show fCat js sts=_ from q];rfl))
   exact nomatch ha.symm.trans this
  ·rw[show fCat js sts=_ from q];exact .U _ 0 0
 |true=>
  obtain⟨vs,rfl,o⟩:=allK_vs hv ha
  obtain⟨t,l⟩:=tx_v hh o hj
  exact⟨1,_,λm r3 r4 r5=>meant_cat (mv_v o hm) t lm (Nat.le_trans l (Nat.le_trans (Nat.mul_le_mul_right _ hn) (Nat.le_of_ble_eq_true rfl))) (m+2),fCat_K h0 hj hv▸.K _ 0⟩
theorem cat_wb{sg:V}(hh:h<=7)(hn:js.length<=3)(h0:js≠[])(hj:∀j∈js,j=12\/j=13)(hv:F2 (StaOk h) js sts){Ws:List V}{b:Nat}(hF:F2 (FA (g+2)) Ws (svs js sts))(hb:b=0\/b=Ws.length-2)(hK:∀s∈(sts.drop b).take 2,s.isK=true):
  ∃e,(∀m r3 r4 r5 ck,run fns (m+1) 44 [rw6 26 13 sg r3 r4 r5,.lst (Ws.take b++[.tup [.int 26,.int 13,.tup ((Ws.drop b).take 2)]]++Ws.drop (b+2)),.int ck]=M.pure e)/\FA (g+4) e ((fCat js sts).sv 13)/\∃p,e=.tup p:=by
 refine cps λPP kk=>?_
 have I:=its_ok hv hj
 have hWl:Ws.length=js.length:=hF.len.trans (svs_len hv)
 have hl0:0<js.length:=List.length_pos_iff.mpr h0
 have split:itsV js sts=(itsV js sts).take b++((itsV js sts).drop b).take 2++(itsV js sts).drop (b+2):=by
  rw[List.append_assoc,←List.drop_drop,List.take_append_drop,List.take_append_drop]
 have hb':b<js.length:=hb.elim (λe=>e▸hl0) λe=>by rw[e,hWl];exact Nat.sub_lt hl0 (Nat.succ_pos 1)
 have hBne:((itsV js sts).drop b).take 2≠[]:=λe=>by
  have:=congrArg List.length e
  rw[List.length_take,List.length_drop,I.len]at this
  exact Nat.ne_of_gt (Nat.lt_min.mpr ⟨Nat.succ_pos 1,Nat.sub_pos_of_lt hb'⟩) this
 have subB:∀q∈((itsV js sts).drop b).take 2,q∈itsV js sts:=λq hq=>List.mem_of_mem_drop (List.mem_of_mem_take hq)
 have hB2:(((itsV js sts).drop b).take 2).length<=3:=Nat.le_trans (List.length_take_le ..) (Nat.le_succ 2)
 obtain⟨L,_,g1⟩:=mrg_txt (mk:=mkV) hBne (its_some hv hj (by rw[List.map_take,List.map_drop,I.snd,←List.map_drop,←List.map_take]) hK)
 have hB:=g1 []
 have fB:(((itsV js sts).drop b).take 2).map (·.1)=((svs js sts).drop b).take 2:=by rw[List.map_take,List.map_drop,I.fst]
 have lL:oL (some L)<=3*4^(h+1):=by
  have s:=mrg_sum (mk:=mkV) (ps:=((itsV js sts).drop b).take 2)
  rw[show mrg mkV (((itsV js sts).drop b).take 2)=_ from hB]at s
  exact Nat.le_trans (Nat.le_of_eq s) (Nat.le_trans (ts_le λq hq=>I.le q (subB q hq)) (Nat.mul_le_mul_right _ hB2))
 have inner:FA (g+3) (nodC ((Ws.drop b).take 2)) (mkV L):=by
  refine cat_fa (λe=>hBne ?_) (Nat.le_trans (List.length_take_le ..) (Nat.le_succ 2)) ((hF.drop b).take 2) λm=>?_
  ·have z:=((hF.drop b).take 2).len
   rw[e,←fB,List.length_map]at z
   exact List.eq_nil_of_length_eq_zero z.symm
  ·rw[←fB]
   refine(cat_key hh _ (λp hp=>(I.all p (subB p hp)).t) (λp hp=>le3B (I.le p (subB p hp))) hB2 m).trans ?_
   rw[show mrg mkV (((itsV js sts).drop b).take 2)=_ from hB];rfl
 have hps:mrg mkV ((itsV js sts).take b++[(mkV L,some L)]++(itsV js sts).drop (b+2))=mrg mkV (itsV js sts):=by
  refine Eq.trans ?_ (congrArg (mrg mkV) split.symm)
  unfold mrg
  rw[List.foldr_append,List.foldr_append,List.foldr_append,List.foldr_append,g1];rfl
 have fO:((itsV js sts).take b++[(mkV L,some L)]++(itsV js sts).drop (b+2)).map (·.1)=(svs js sts).take b++[mkV L]++(svs js sts).drop (b+2):=by
  rw[List.map_append,List.map_append,List.map_take,List.map_drop,I.fst];rfl
 have hp:∀q∈(itsV js sts).take b++[(mkV L,some L)]++(itsV js sts).drop (b+2),Txt q.1 q.2/\oL q.2<=3*4^(h+1):=by
  intro q hq
  rcases List.mem_append.mp hq with hq|hq
  ·rcases List.mem_append.mp hq with hq|hq
   ·have:=List.mem_of_mem_take hq
    exact⟨(I.all q this).t,le3B (I.le q this)⟩
   ·rw[List.mem_singleton.mp hq];exact⟨txt_s,lL⟩
  ·have:=List.mem_of_mem_drop hq
   exact⟨(I.all q this).t,le3B (I.le q this)⟩
 have hlen:((itsV js sts).take b++[(mkV L,some L)]++(itsV js sts).drop (b+2)).length<=3:=by
  have s:=congrArg List.length split
  have:=List.length_pos_iff.mpr hBne
  rw[List.length_append,List.length_append,I.len]at s
  rw[List.length_append,List.length_append,List.length_singleton]
  lia
 have hFO:F2 (FA (g+3)) (Ws.take b++[nodC ((Ws.drop b).take 2)]++Ws.drop (b+2)) ((svs js sts).take b++[mkV L]++(svs js sts).drop (b+2)):=
  ((((hF.take b).imp λ_ _ f=>f.le (Nat.le_succ _)).app (.cons inner .nil)).app ((hF.drop (b+2)).imp λ_ _ f=>f.le (Nat.le_succ _)))
 have hWO:(Ws.take b++[nodC ((Ws.drop b).take 2)]++Ws.drop (b+2)).length<=3:=by rw[hFO.len,←fO,List.length_map];exact hlen
 refine kk ⟨_,λm r3 r4 r5 ck=>put_cat m (Nat.le_trans hWO (Nat.le_of_ble_eq_true rfl)),cat_fa (λe=>?_) hWO hFO λm=>?_,_,rfl⟩
 ·have:=congrArg List.length e
  rw[List.length_append,List.length_append,List.length_singleton]at this
  have z:([]:List V).length=0:=rfl
  lia
 ·rw[←fO]
  refine(cat_key hh _ (λp q=>(hp p q).1) (λp q=>(hp p q).2) hlen m).trans ?_
  rw[hps];rfl
theorem gen_cat{sg:V}(hn:js.length<=3)(h0:js≠[])(hj:∀j∈js,j=12\/j=13):Fun 26 13 sg js nodC (fCat js)where
 put m cs r3 r4 r5 ck hl:=put_cat m (hl▸Nat.le_trans hn (Nat.le_of_ble_eq_true rfl))
 asc h sts m lo hv hlo:=by
  rcases hlo with rfl|rfl
  ·exact asc_other (m+1) (c:=26) rfl rfl rfl
  ·exact asc_loose (m+1)
 pd h sts hv hh:=(cat_pd (svs_all (λj s o=>o.pd) hv)).le (by lia)
 flt h sts hv m:=fault_o (m+5) (c:=26) rfl rfl rfl
 fld h sts hh hv m:=cat_fld hh hn hj hv m
 ok h sts hh hv:=cat_ok hh hn h0 hj hv
 sim h sts sts' hh hv hv' hs:=cat_sim hh hn h0 hj hv hv' hs
 nu h sts hv hu s hs:=isK_U (cat_nu hj hv hu s hs)
 fo h sts ls hh hv hF hl hz hu:=cat_found hh hn h0 hj hv hF hl hz hu
 me h sts ms hh hv hm:=cat_me hh hn h0 hj hv hm
 wh h g sts Ws hh hv hF hW:=
  have hl:Ws.length=js.length:=hF.len.trans (svs_len hv)
  cat_fa (λe=>h0 (List.eq_nil_of_length_eq_zero (hl.symm.trans (e▸rfl)))) (hl▸hn) hF (cat_fld hh hn hj hv)
 tp Ws hl:=⟨_,rfl⟩
 wb _ h g sts Ws b hh hv hF hW hb hK:=cat_wb hh hn h0 hj hv hF hb hK
end
section
variable{Φ:Nat->List V->M V}{ρ:Env'}
end
noncomputable abbrev iV(l:List Nat):List V:=l.map λ(i:Nat)=>V.int i
inductive VL:List Rec->List Rec->Prop
 |nil {pre:List Rec}:VL pre []
 |cons {pre rest kids:List Rec} {r:Rec}:Sem r->F2 (λj q=>pre[j]?=some q) r.idx kids->Stp kids r->(∀q∈kids,Sem q/\q.h<r.h)/\kids.length<=3->VL (pre++[r]) rest->VL pre (r::rest)
theorem VL.app{pre p q:List Rec}(a:VL pre p)(b:VL (pre++p) q):VL pre (p++q):=by
 induction a with
 |nil=>simpa using b
 |cons s f st ks _ ih=>exact .cons s f st ks (ih (by simpa using b))
theorem subL_ok{xs:List V}{i:Nat}{v:V}(h:xs[i]?=some v)(hl:xs.length<=lim):subV (.lst xs) (.int (i:Int))=some v:=by
 have hi:i<xs.length:=by
  rcases Nat.lt_or_ge i xs.length with h'|h'
  ·exact h'
  ·rw[List.getElem?_eq_none h']at h;exact nomatch h
 show subL xs (i:Int)=_
 unfold subL
 rw[if_pos ⟨by exact Int.natCast_nonneg _,by lia⟩,Int.toNat_natCast,h]
theorem subT_ok{xs:List V}{i:Nat}{v:V}(h:xs[i]?=some v)(hl:xs.length<=lim):subV (.tup xs) (.int (i:Int))=some v:=subL_ok (xs:=xs) h hl
theorem map_get{rs:List Rec}{i:Nat}{q:Rec}{f:Rec->V}(h:rs[i]?=some q):(rs.map f)[i]?=some (f q):=by rw[List.getElem?_map,h];rfl
noncomputable def partB:Ss:=f_law_parts.body.tl.tl.tl.hd.bod
theorem any_b(bs:List Bool):((bs.map V.bool).any λy=>y.beq (.bool false))=!decide (false∉bs):=by
 induction bs with
 |nil=>rfl
 |cons b bs ih=>
  rw[List.map_cons,List.any_cons,ih]
  cases b with
  |false=>exact congrArg not (decide_eq_false (show¬false∉false::bs fromλq=>q (.head _))).symm
  |true=>exact congrArg not (decide_eq_decide.mpr ⟨λq m=>by cases m with|tail _ m=>exact q m,λq m=>q (.tail _ m)⟩)
theorem plains_b(bs:List Bool):V.plains (bs.map V.bool)=true:=by
 induction bs with
 |nil=>rfl
 |cons b bs ih=>exact ih
theorem nin_b(bs:List Bool):cmpV .NotIn (.bool false) (.lst (bs.map V.bool))=some (decide (false∉bs)):=by
 refine(if_pos (c:=((V.bool false).plain&&V.plains (bs.map V.bool))=true/\(V.bool false).depth<=500) ⟨plains_b bs,Nat.zero_le _⟩).trans ?_
 rw[any_b,Bool.not_not]
theorem pd_cmp{e:V}{d:Nat}(p:Pd d e)(hd:d<=500):(e.plain&&e.plain)=true/\min e.depth e.depth<=500:=⟨by rw[p.1];rfl,Nat.le_trans (Nat.min_le_left _ _) (Nat.le_trans p.2 hd)⟩
theorem ne_self{e:V}{d:Nat}(p:Pd d e)(hd:d<=500):cmpV .NotEq e e=some false:=(if_pos (pd_cmp p hd)).trans (by rw[beq_refl e p.1];rfl)
theorem eq_self{e:V}{d:Nat}(p:Pd d e)(hd:d<=500):cmpV .Eq e e=some true:=(if_pos (pd_cmp p hd)).trans (by rw[beq_refl e p.1])
noncomputable abbrev Sl:=Nat->Slot
noncomputable def slo(l:List Slot):Sl:=λi=>l.getD i .none
theorem it_e{Φ:Nat->List V->M V}{ρ:Env'}{t a b:E}{r:Bool}{x y:V}(h:evE Φ ρ t=M.pure (.bool r))(ha:evE Φ ρ a=M.pure x)(hb:evE Φ ρ b=M.pure y):evE Φ ρ (.ite t a b)=M.pure (if r=true then x else y):=by
 show(evE Φ ρ t).bind _=_
 rw[h]
 cases r with
 |true=>exact ha
 |false=>exact hb
section
variable{n:Nat}{pre kids:List Rec}{r:Rec}{how rows:V}{ck lo mk f:Int}{S:Rec->V}{b:Rec->Bool}{F K:Rec->Int}
noncomputable abbrev pE(rows how:V)(S:Rec->V)(F K:Rec->Int)(pre:List Rec)(s:Sl):Env':=[.val rows,.val how,.own (pre.map S),.own (pre.map λq=>.int (F q)),.own (pre.map λq=>.int (K q)),s 5,s 6,s 7,s 8,s 9,s 10,s 11,s 12]
theorem part_c1{a c d e x:Slot}{k i:E}{s:Sl}(hidx:F2 (λj q=>pre[j]?=some q) r.idx kids)(hlen:pre.length<=1000)(hkl:kids.length<=1000):evE (run fns n) [a,c,.own (pre.map S),d,e,.val r.row,s 6,s 7,s 8,s 9,s 10,s 11,s 12] (.comp 11 (.subO 2 (.loc 11)) (.sub (.loc 5) (.int 5)) .nil)=M.pure (.lst (kids.map S)):=
 pv_comp (u:=.tup (iV r.idx)) (xs:=iV r.idx) rfl (it_tup (by rw[List.length_map,hidx.len];exact Nat.le_trans hkl (Nat.le_of_ble_eq_true rfl))) (Nat.le_of_lt (lim_lt hkl)) (F2_mm (hidx.imp λj q hj=>congrArg M.lift (subL_ok (map_get (f:=S) hj) (Nat.le_of_lt (lim_lt hlen)))))
theorem ite_mk{p:Prop}[Decidable p]:(if(lo==0&&decide p)=true then V.int 1 else V.int ck)=V.int (if lo=0/\p then 1 else ck):=by
 by_cases h:lo=0/\p
 ·rw[if_pos h,if_pos (by rw[h.1,decide_eq_true h.2];rfl)]
 ·rw[if_neg h,if_neg λq=>h ⟨eq_of_beq (Bool.and_eq_true_iff.mp q).1,of_decide_eq_true (Bool.and_eq_true_iff.mp q).2⟩]
theorem part_y{a c d e x:Slot}{s:Sl}(hkl:kids.length<=1000)(hst:∀q∈kids,∀n,run fns (n+1) 45 [S q]=M.pure (.bool (b q)))(hmk:mk=(if lo=0/\false∉kids.map b then 1 else ck)):
  evE (run fns (n+1)) [a,c,d,e,x,.val r.row,.val (.int ck),.val (.int lo),.val (.lst (kids.map S)),s 9,s 10,s 11,s 12] (.ite (.boo true (.cons (.cmp .Eq (.loc 7) (.int 0)) (.cons (.cmp .NotIn (.bool false) (.comp 12 (.call 45 (.cons (.loc 12) .nil)) (.loc 8) .nil)) .nil))) (.int 1) (.loc 6))=M.pure (.int mk):=by
 have c2:evE (run fns (n+1)) [a,c,d,e,x,.val r.row,.val (.int ck),.val (.int lo),.val (.lst (kids.map S)),s 9,s 10,s 11,s 12] (.comp 12 (.call 45 (.cons (.loc 12) .nil)) (.loc 8) .nil)=M.pure (.lst ((kids.map b).map V.bool)):=
  pv_comp (u:=.lst (kids.map S)) (xs:=kids.map S) rfl (it_lst (Nat.le_of_lt (lim_lt hkl))) (by rw[List.length_map];exact Nat.le_of_lt (lim_lt hkl)) (by rw[List.map_map];exact F2_map λq hq=>hst q hq n)
 refine(it_e (x:=.int 1) (y:=.int ck) (bo2 (b1:=lo==0) (b2:=decide (false∉kids.map b)) rfl ?_ rfl) rfl rfl).trans (congrArg M.pure ?_)
 ·show M.bind (evE _ _ (.comp 12 (.call 45 (.cons (.loc 12) .nil)) (.loc 8) .nil)) (λy=>(M.lift (cmpV .NotIn (.bool false) y)).bind λt=>M.pure (V.bool t))=_
  rw[c2,M.pure_bind,nin_b];rfl
 ·rw[hmk];exact ite_mk
theorem part_h{s:Sl}(hhow:(how=.none/\ck=r.ck/\lo=r.lo)\/how=.tup [.int ck,.int lo]):evE (run fns n) (List.set (pE rows how S F K pre s) 5 (.val r.row)) (.ite (.cmp .Is (.loc 1) .none) (.slcB (.loc 5) (.int 3) (.int 5)) (.loc 1))=M.pure (.tup [.int ck,.int lo]):=by
 rcases hhow with⟨rfl,rfl,rfl⟩|rfl<;>rfl
theorem part_step(s:Sl)(hidx:F2 (λj q=>pre[j]?=some q) r.idx kids)(hlen:pre.length<=1000)(hkl:kids.length<=1000)(hst:∀q∈kids,∀n,run fns (n+1) 45 [S q]=M.pure (.bool (b q)))
  (hone:One r.row (kids.map S) (kids.map b) ck lo (S r) (F r) (K r))(hhow:(how=.none/\ck=r.ck/\lo=r.lo)\/how=.tup [.int ck,.int lo]):
  ∃t:Sl,evSs (run fns (n+7)) (List.set (pE rows how S F K pre s) 5 (.val r.row)) partB=M.pure (.next,pE rows how S F K (pre++[r]) t):=by
 refine cps λPP kk=>?_
 obtain⟨hmk,e0,e,p1,a1,p2,pd,ft,fd⟩:=hone
 refine kk ⟨slo [.none,.none,.none,.none,.none,.val r.row,.val (.int ck),.val (.int lo),.val (.lst (kids.map S)),.val (.int (K r)),.val e,s 11,s 12],?_⟩
 show _=M.pure (Fl.next,[_,_,Slot.own ((pre++[r]).map S),Slot.own ((pre++[r]).map _),Slot.own ((pre++[r]).map _),_,_,_,_,_,_,_,_])
 rw[List.map_append,List.map_append,List.map_append]
 exact oS (.y 0 (.tup [.int ck,.int lo])<|.m 1 (.lst (kids.map S))<|.y 0 (.int (K r))<|.m 3 e0<|.m 1 e<|.m 4 e<|.b 0 false<|.m 4 (.int (F r))<|.b 0 true<|.m 2 (S r)<|.b 0 true<|.b 2 true .e) (λ_ ez=>ai (part_h (n:=n+7) (rows:=rows) (S:=S) (F:=F) (K:=K) (pre:=pre) (s:=s) hhow)<|ai (part_c1 (n:=n+7) (S:=S) (a:=.val rows) (c:=.val how) (d:=.own (pre.map λq=>.int (F q))) (e:=.own (pre.map λq=>.int (K q))) (s:=slo [.none,.none,.none,.none,.none,.none,.val (.int ck),.val (.int lo),s 8,s 9,s 10,s 11,s 12]) (k:=.none) (i:=.none) (x:=.none) hidx hlen hkl)<|
  ai (part_y (r:=r) (n:=n+6) (s:=s) (a:=.val rows) (c:=.val how) (d:=.own (pre.map S)) (e:=.own (pre.map λq=>.int (F q))) (x:=.own (pre.map λq=>.int (K q))) hkl hst hmk)<|ai (p1 (n+6))<|ai (a1 (n+5))<|ai (p2 (n+6))<|ai (ne_self pd (by decide))<|ai (ft (n+1))<|ai (dt (lim_lt (f:=λq=>V.int (F q)) hlen))<|ai (fd n)<|ai (dt (lim_lt (f:=S) hlen))<|ai (dt (lim_lt (f:=λq=>V.int (K q)) hlen)) ez)
end
section
variable{n:Nat}{pre kids:List Rec}{r:Rec}{how rows:V}{S:Rec->V}{b:Rec->Bool}{F K ck lo:Rec->Int}
theorem part_loop(hst:∀q,Sem q->∀n,run fns (n+1) 45 [S q]=M.pure (.bool (b q)))(hone:∀kids r,Stp kids r->One r.row (kids.map S) (kids.map b) (ck r) (lo r) (S r) (F r) (K r))(hhow:∀r,(how=.none/\ck r=r.ck/\lo r=r.lo)\/how=.tup [.int (ck r),.int (lo r)])
  {pre rest:List Rec}(hv:VL pre rest):(pre++rest).length<=1000->∀s:Sl,∃t:Sl,loopL (λv ρ=>evSs (run fns (n+7)) (List.set ρ 5 (.val v)) partB) (rest.map Rec.row) (pE rows how S F K pre s)=M.pure (.next,pE rows how S F K (pre++rest) t):=by
 induction hv with
 |nil=>exactλ_ s=>⟨s,by rw[List.append_nil];rfl⟩
 |@cons pre rest kids r hs hidx hstep hk hrest ih=>
  intro hlen s
  have e1:pre++[r]++rest=pre++r::rest:=List.append_assoc ..
  rw[←e1]at hlen ⊢
  obtain⟨t,e⟩:=part_step (n:=n) (rows:=rows) s hidx (Nat.le_trans (Nat.le_trans (Nat.le_add_right _ _) (Nat.le_of_eq List.length_append.symm)) (Nat.le_trans (Nat.le_trans (Nat.le_add_right _ _) (Nat.le_of_eq List.length_append.symm)) hlen)) (Nat.le_trans hk.2 (by decide)) (λq hq=>hst q (hk.1 q hq).1) (hone _ _ hstep) (hhow r)
  obtain⟨u,e2⟩:=ih hlen t
  exact⟨u,by rw[List.map_cons,loop_cons,e];exact e2⟩
theorem parts_run(hst:∀q,Sem q->∀n,run fns (n+1) 45 [S q]=M.pure (.bool (b q)))(hone:∀kids r,Stp kids r->One r.row (kids.map S) (kids.map b) (ck r) (lo r) (S r) (F r) (K r))(hhow:∀r,(how=.none/\ck r=r.ck/\lo r=r.lo)\/how=.tup [.int (ck r),.int (lo r)])
  {rs:List Rec}(hv:VL [] rs)(hlen:rs.length<=1000)(n:Nat):run fns (n+8) 46 [.lst (rs.map Rec.row),how]=M.pure (.tup [.lst (rs.map S),.lst (rs.map λq=>.int (F q)),.lst (rs.map λq=>.int (K q))]):=by
 obtain⟨t,e⟩:=part_loop (n:=n) (rows:=.lst (rs.map Rec.row)) (how:=how) hst hone hhow hv hlen λ_=>.none
 exact oC f_law_parts (.l 1 (rs.map Rec.row)<|.q 0 .next (pE (.lst (rs.map Rec.row)) how S F K rs t) .e) (λ_ ez=>ai (it_lst (Nat.le_of_lt (lim_lt (f:=Rec.row) hlen)))<|ai e ez)
theorem parts_m{rs:List Rec}(hv:VL [] rs)(hlen:rs.length<=1000)(n:Nat):run fns (n+8) 46 [.lst (rs.map Rec.row),.none]=M.pure (.tup [.lst (rs.map λq=>q.sm.sv q.k),.lst (rs.map λq=>.int q.fm),.lst (rs.map λq=>.int q.mm)]):=
 parts_run (b:=λq=>q.sm.isK) (ck:=Rec.ck) (lo:=Rec.lo) (λq hq n=>hq.om.st n) (λkids r st=>st.om) (λr=>.inl ⟨rfl,rfl,rfl⟩) hv hlen n
theorem parts_s{rs:List Rec}(hv:VL [] rs)(hlen:rs.length<=1000)(n:Nat):run fns (n+8) 46 [.lst (rs.map Rec.row),.tup [.int 1,.int 0]]=M.pure (.tup [.lst (rs.map λq=>q.ss.sv q.k),.lst (rs.map λq=>.int q.fs),.lst (rs.map λq=>.int q.ms)]):=
 parts_run (b:=λq=>q.ss.isK) (ck:=λ_=>1) (lo:=λ_=>0) (λq hq n=>hq.os.st n) (λkids r st=>st.os) (λr=>.inr rfl) hv hlen n
theorem parts_p{rs:List Rec}(hv:VL [] rs)(hlen:rs.length<=1000)(n:Nat):run fns (n+8) 46 [.lst (rs.map Rec.row),.tup [.int 0,.int 0]]=M.pure (.tup [.lst (rs.map λq=>q.sp.sv q.k),.lst (rs.map λq=>.int q.fs),.lst (rs.map λq=>.int q.mp)]):=
 parts_run (b:=λq=>q.sp.isK) (ck:=λ_=>0) (lo:=λ_=>0) (λq hq n=>hq.op.st n) (λkids r st=>st.op) (λr=>.inr rfl) hv hlen n
theorem parts_l{rs:List Rec}(hv:VL [] rs)(hlen:rs.length<=1000)(n:Nat):run fns (n+8) 46 [.lst (rs.map Rec.row),.tup [.int 0,.int 1]]=M.pure (.tup [.lst (rs.map λq=>q.sl.sv q.k),.lst (rs.map λq=>.int q.fl),.lst (rs.map λq=>.int q.ml)]):=
 parts_run (b:=λq=>q.sl.isK) (ck:=λ_=>0) (lo:=λ_=>1) (λq hq n=>hq.ol.st n) (λkids r st=>st.ol) (λr=>.inr rfl) hv hlen n
end
noncomputable def wholeB:Ss:=f_law_whole.body.tl.hd.bod
noncomputable def wR:Ss:=wholeB.tl.tl.tl.tl
noncomputable def wA:Ss:=.cons wholeB.hd (.cons wholeB.tl.hd (.cons wholeB.tl.tl.hd (.cons wholeB.tl.tl.tl.hd .nil)))
noncomputable def goOn(k:Env'->M (Fl×Env'))(p:Fl×Env'):M (Fl×Env'):=match p.1 with
 |.next=>k p.2
 |.ret v=>M.pure (.ret v,p.2)
theorem cut_c{Φ:Nat->List V->M V}(s:S){a b:Ss}{k:Env'->M (Fl×Env')}(h:∀ρ,(evSs Φ ρ a).bind (goOn k)=evSs Φ ρ b)(ρ:Env'):(evSs Φ ρ (.cons s a)).bind (goOn k)=evSs Φ ρ (.cons s b):=by
 refine(M.bind_assoc (evS Φ ρ s) _ _).trans (M.cg λp=>?_)
 obtain⟨f,x⟩:=p
 cases f with
 |next=>exact h x
 |ret v=>rfl
theorem evSs_cut{Φ:Nat->List V->M V}{ρ ρ':Env'}{s1 s2 s3 s4:S}{r:Ss}(h:evSs Φ ρ (.cons s1 (.cons s2 (.cons s3 (.cons s4 .nil))))=M.pure (.next,ρ')):evSs Φ ρ (.cons s1 (.cons s2 (.cons s3 (.cons s4 r))))=evSs Φ ρ' r:=by
 have q:=cut_c s1 (cut_c s2 (cut_c s3 (cut_c s4 (a:=.nil) (b:=r) (k:=λρ=>evSs Φ ρ r) λρ=>rfl))) ρ
 rw[h]at q
 exact q.symm
section
variable{h g:Nat}{k c:Int}{e v:V}
theorem wrap_same(o:Okv h k v)(f:FA g e (con k v))(t:∃p,e=.tup p):FA (g+1) (.tup [.int 19,.int k,e,.int 10,.int 0]) (con k v):=by
 obtain⟨p,rfl⟩:=t
 exact fa_1 rfl (λm=>kids_conv m) f (λm=>with_conv m) (λm=>conv_same (m+3) o.ne15)
theorem wrap_num(o:Okv h k v)(k1:2<=k)(k2:k<=10)(f:FA g e (con k v))(t:∃p,e=.tup p):FA (g+1) (.tup [.int 19,.int k,e,.int 1,.int c]) (con k v):=by
 obtain⟨p,rfl⟩:=t
 cases o with
 |num r h1 h2=>
  exact fa_1 rfl (λm=>kids_conv m) f (λm=>with_conv m) (λm=>conv_num_s (m+1) r.ne15.1 r.ne15.2 k1 k2 (λm=>fc_some m (whole_in m (r.rng k1 k2) (in_T h1 h2))))
 |str _=>contradiction
 |null q=>lia
end
theorem F2.get{α β:Type}{R:α->β->Prop}{as:List α}{bs:List β}(f:F2 R as bs):∀{i:Nat}{b:β},bs[i]?=some b->∃a,as[i]?=some a/\R a b:=by
 induction f with
 |nil=>exactλh=>nomatch h
 |cons r _ ih=>
  intro i b h
  cases i with
  |zero=>exact⟨_,rfl,Option.some.inj h▸r⟩
  |succ i=>exact ih h
theorem kid_ws{R:V->Rec->Prop}{Ws:List V}{pre:List Rec}(hW:F2 R Ws pre){idx:List Nat}{kids:List Rec}(f:F2 (λj q=>pre[j]?=some q) idx kids):∃KW,F2 (λj W=>Ws[j]?=some W) idx KW/\F2 R KW kids:=by
 induction f with
 |nil=>exact⟨[],.nil,.nil⟩
 |cons h _ ih=>
  obtain⟨KW,a,b⟩:=ih
  obtain⟨W,h1,h2⟩:=hW.get h
  exact⟨W::KW,.cons h1 a,.cons h2 b⟩
section
variable{xs:List V}(b:Nat)
theorem slc_g(hl:xs.length<=lim):(if 0<=(b:Int)/\0<=(b:Int)+2/\xs.length<=lim then some (sliceL xs (b:Int).toNat (some ((b:Int)+2).toNat))else none)=some ((xs.drop b).take 2):=by
 rw[if_pos ⟨Int.natCast_nonneg _,Int.natCast_nonneg (b+2),hl⟩]
 show some ((xs.take (b+2)).drop b)=_
 rw[List.drop_take,Nat.add_sub_cancel_left]
theorem slc_i{mk:List V->V}{c:Prop}[Decidable c]{x y:List V}(h:(if c then some x else none)=some y):(if c then some (mk x)else none)=some (mk y):=by
 obtain⟨q,rfl⟩:=ite_some h
 exact if_pos q
theorem slc_l(hl:xs.length<=lim):slcV (.lst xs) (b:Int) (some ((b:Int)+2))=some (.lst ((xs.drop b).take 2)):=slc_i (mk:=V.lst) (slc_g b hl)
theorem slc_t(hl:xs.length<=lim):slcV (.tup xs) (b:Int) (some ((b:Int)+2))=some (.tup ((xs.drop b).take 2)):=slc_i (mk:=V.tup) (slc_g b hl)
theorem slc_h(hl:xs.length<=lim):slcV (.lst xs) 0 (some (b:Int))=some (.lst (xs.take b)):=if_pos ⟨Int.le_refl _,Int.natCast_nonneg _,hl⟩
theorem slc_r(hl:xs.length<=lim):slcV (.lst xs) ((b:Int)+2) none=some (.lst (xs.drop (b+2))):=if_pos ⟨Int.natCast_nonneg (b+2),hl⟩
end
inductive Pt(KW:List V)(kids:List Rec)(code:Int):List V->Prop
 |same:Pt KW kids code KW
 |br (b:Nat):code=26->(b=0\/b=KW.length-2)->(∀q∈(kids.drop b).take 2,q.sm.isK=true)->Pt KW kids code (KW.take b++[.tup [.int 26,.int 13,.tup ((KW.drop b).take 2)]]++KW.drop (b+2))
section
variable{n g b:Nat}{pre rest kids rs:List Rec}{r:Rec}{Ws KW:List V}{ps:List Int}{way i:Int}{s:Sl}
noncomputable abbrev whE(rs:List Rec)(ps:List Int)(Ws:List V)(s:Sl):Env':=[.val (.lst (rs.map Rec.row)),.val (.lst (rs.map λq=>.int q.mm)),.val (.lst (rs.map λq=>q.sm.sv q.k)),.val (.lst (ps.map V.int)),.own Ws,s 5,s 6,s 7,s 8,s 9,s 10,s 11,s 12,s 13]
noncomputable abbrev whS(i:Int)(r:Rec)(way:Int)(P:List V)(s:Sl):Sl:=slo [.none,.none,.none,.none,.none,.val (.int i),.val r.row,.val (.int way),.val (.lst P),s 9,s 10,s 11,s 12,s 13]
theorem call1{Φ:Nat->List V->M V}{ρ:Env'}{e:E}{x:V}{f:Nat}(h:evE Φ ρ e=M.pure x):evE Φ ρ (.call f (.cons e .nil))=Φ f [x]:=by
 show M.bind (M.bind (evE Φ ρ e) λx=>_) _=_
 rw[h];rfl
theorem wh_c(hidx:F2 (λj q=>pre[j]?=some q) r.idx kids)(hrs:∀(j:Nat)(q:Rec),pre[j]?=some q->rs[j]?=some q)(hlen:rs.length<=1000)(hk:∀q∈kids,Sem q)(hkl:kids.length<=3)(h9:s 9=.val (.int (b:Int))):
  evE (run fns (n+1)) (whE rs ps Ws (whS i r way KW s)) (.comp 13 (.call 45 (.cons (.sub (.loc 2) (.loc 13)) .nil)) (.slcB (.sub (.loc 6) (.int 5)) (.loc 9) (.bin .Add (.loc 9) (.int 2))) .nil)=M.pure (.lst ((((kids.drop b).take 2).map λq=>q.sm.isK).map V.bool)):=by
 have e1:((iV r.idx).drop b).take 2=iV ((r.idx.drop b).take 2):=by rw[←List.map_drop,←List.map_take]
 have h2:∀{α:Type}(l:List α),((l.drop b).take 2).length<=lim:=λl=>Nat.le_trans (Nat.le_trans (Nat.le_of_eq List.length_take) (Nat.min_le_left _ _)) (Nat.le_of_ble_eq_true rfl)
 have F:=(hidx.drop b).take 2
 refine pv_comp (u:=.tup (((iV r.idx).drop b).take 2)) (xs:=((iV r.idx).drop b).take 2) ?_ (it_tup (h2 _)) (by rw[List.length_map,List.length_map];exact h2 _) ?_
 ·show(M.lift (getV (whE rs ps Ws (whS i r way KW s)) 9)).bind (λl=>((M.lift (getV (whE rs ps Ws (whS i r way KW s)) 9)).bind λx=>M.lift (binV .Add x (.int 2))).bind λh=>M.lift (slcBV (.tup (iV r.idx)) l h))=_
  rw[show getV (whE rs ps Ws (whS i r way KW s)) 9=some (.int (b:Int))from(show getV [s 9] 0=_ by rw[h9];rfl)]
  exact congrArg M.lift (slc_t b (by rw[List.length_map,hidx.len];exact Nat.le_trans hkl (Nat.le_of_ble_eq_true rfl)))
 ·rw[e1,List.map_map]
  refine F2_mm ?_
  have hk2:∀q∈(kids.drop b).take 2,Sem q:=λq hq=>hk q (List.mem_of_mem_drop (List.mem_of_mem_take hq))
  generalize (kids.drop b).take 2=ks at F hk2
  generalize (r.idx.drop b).take 2=is at F
  clear e1 h2 h9 hidx
  induction F with
  |nil=>exact .nil
  |@cons j q is ks hq _ ih=>
   refine .cons ((call1 (x:=q.sm.sv q.k) ?_).trans ((hk2 _ (.head _)).om.st n)) (ih λq hq=>hk2 q (.tail _ hq))
   exact congrArg M.lift (subL_ok (map_get (f:=λq=>q.sm.sv q.k) (hrs _ _ hq)) (Nat.le_of_lt (lim_lt hlen)))
theorem max0{n:Nat}:bifV .max [.int 0,.int ((n:Int)-2)]=some (.int ((n-2:Nat):Int)):=by
 show some (V.int (if(0:Int)<(n:Int)-2 then(n:Int)-2 else 0))=_
 congr 2
 split<;>omega
end
section
variable{n g b:Nat}{pre rest kids rs:List Rec}{r:Rec}{Ws KW:List V}{ps:List Int}{way i:Int}{s:Sl}
theorem take2_le{α:Type}{l:List α}(b:Nat):((l.drop b).take 2).length<=2:=Nat.le_trans (Nat.le_of_eq List.length_take) (Nat.min_le_left _ _)
theorem bif2{Φ:Nat->List V->M V}{ρ:Env'}{f:Bif}{a c:E}{x y:V}(ha:evE Φ ρ a=M.pure x)(hc:evE Φ ρ c=M.pure y):evE Φ ρ (.bif f (.cons a (.cons c .nil)))=M.lift (bifV f [x,y]):=by
 show M.bind (M.bind (evE Φ ρ a) λx=>M.bind (M.bind (evE Φ ρ c) λy=>M.bind (M.pure []) λys=>M.pure (y::ys)) λxs=>M.pure (x::xs)) (λxs=>M.lift (bifV f xs))=_
 rw[ha,hc];rfl
theorem bin1{Φ:Nat->List V->M V}{ρ:Env'}{o:Operator}{a c:E}{x y:V}(ha:evE Φ ρ a=M.pure x)(hc:(evE Φ ρ c).bind (λy=>M.lift (binV o x y))=M.pure y):evE Φ ρ (.bin o a c)=M.pure y:=by
 show M.bind (evE Φ ρ a) _=_
 rw[ha];exact hc
theorem whole_A(hway:way=0\/way=1\/way=2\/way=3\/way=4\/way=5)(g0:subV (.lst (rs.map Rec.row)) (.int i)=some r.row)(g3:subV (.lst (ps.map V.int)) (.int i)=some (.int way))
  (c1:evE (run fns (n+1)) (whE rs ps Ws (slo [.none,.none,.none,.none,.none,.val (.int i),.val r.row,.val (.int way),s 8,s 9,s 10,s 11,s 12,s 13])) (.comp 12 (.subO 4 (.loc 12)) (.sub (.loc 6) (.int 5)) .nil)=M.pure (.lst KW))
  (hidx:F2 (λj q=>pre[j]?=some q) r.idx kids)(hrs:∀(j:Nat)(q:Rec),pre[j]?=some q->rs[j]?=some q)(hlen:rs.length<=1000)(hk:∀q∈kids,Sem q)(hkl:kids.length<=3)(hKW:KW.length=kids.length):
  ∃P t,evSs (run fns (n+1)) (List.set (whE rs ps Ws s) 5 (.val (.int i))) wA=M.pure (.next,whE rs ps Ws (whS i r way P t))/\Pt KW kids r.code P:=by
 have hc:evE (run fns (n+1)) (whE rs ps Ws (whS i r way KW s)) (.boo true (.cons (.cmp .Eq (.sub (.loc 6) (.int 0)) (.int 26)) (.cons (.cmp .Gt (.loc 7) (.int 3)) .nil)))=M.pure (.bool (r.code==26&&decide (3<way))):=bo2 rfl rfl rfl
 cases e:(r.code==26&&decide (3<way))with
 |false=>
  rw[e]at hc
  exact⟨KW,s,oS (.v 2 r.row<|.v 2 (.int way)<|.m 0 (.lst KW)<|.y 0 (.bool false) .e) (λ_ ez=>ai g0<|ai g3<|ai c1<|ai hc ez),.same⟩
 |true=>
  rw[e]at hc
  have e:=Bool.and_eq_true_iff.mp e
  have hK:KW.length<=lim:=hKW▸Nat.le_trans hkl (Nat.le_of_ble_eq_true rfl)
  obtain⟨b,hb,hx⟩:∃b:Nat,(b=0\/b=KW.length-2)/\evE (run fns (n+1)) (whE rs ps Ws (whS i r way KW s)) (.ite (.cmp .Eq (.loc 7) (.int 4)) (.int 0) (.bif .max (.cons (.int 0) (.cons (.bin .Sub (.bif .len (.cons (.loc 8) .nil)) (.int 2)) .nil))))=M.pure (.int (b:Int)):=by
   by_cases h4:way=4
   ·subst h4;exact⟨0,.inl rfl,rfl⟩
   ·refine⟨KW.length-2,.inr rfl,?_⟩
    refine(it_e (r:=false) (x:=.int 0) (y:=.int ((KW.length-2:Nat):Int)) ?_ rfl ?_).trans rfl
    ·show M.pure (V.bool (way==4))=_
     rw[show(way==4)=false from beq_false_of_ne h4]
    ·have e1:evE (run fns (n+1)) (whE rs ps Ws (whS i r way KW s)) (.bif .len (.cons (.loc 8) .nil))=M.pure (.int (KW.length:Int)):=congrArg M.lift (lenL hK)
     exact(bif2 (x:=.int 0) (y:=.int ((KW.length:Int)-2)) rfl (bin1 (x:=.int (KW.length:Int)) e1 rfl)).trans (congrArg M.lift max0)
  have hn:=nin_b (((kids.drop b).take 2).map λq=>q.sm.isK)
  have cc:=wh_c (n:=n) (ps:=ps) (Ws:=Ws) (way:=way) (i:=i) (KW:=KW) (s:=slo [.none,.none,.none,.none,.none,.none,.none,.none,.none,.val (.int (b:Int)),s 10,s 11,s 12,s 13]) hidx hrs hlen hk hkl rfl
  cases e2:decide (false∉((kids.drop b).take 2).map λq=>q.sm.isK)with
  |false=>
   rw[e2]at hn
   exact⟨KW,slo [.none,.none,.none,.none,.none,.none,.none,.none,.none,.val (.int (b:Int)),s 10,s 11,s 12,s 13],oS (.v 2 r.row<|.v 2 (.int way)<|.m 0 (.lst KW)<|.y 0 (.bool true)<|.y 0 (.int (b:Int))<|.m 0 (.lst ((((kids.drop b).take 2).map λq=>q.sm.isK).map V.bool))<|.b 0 false .e) (λ_ ez=>ai g0<|ai g3<|ai c1<|ai hc<|ai hx<|ai cc<|ai hn ez),.same⟩
  |true=>
   rw[e2]at hn
   have hall:∀q∈(kids.drop b).take 2,q.sm.isK=true:=λq hq=>by
    cases e3:q.sm.isK with
    |true=>rfl
    |false=>exact absurd (List.mem_map.mpr ⟨q,hq,e3⟩) (of_decide_eq_true e2)
   have hT:((KW.drop b).take 2).length<=lim:=Nat.le_trans (take2_le b) (Nat.le_of_ble_eq_true rfl)
   have hA:(KW.take b).length<=3:=Nat.le_trans (Nat.le_trans (Nat.le_of_eq List.length_take) (Nat.min_le_right _ _)) (hKW▸hkl)
   have hD:(KW.drop (b+2)).length<=3:=Nat.le_trans (Nat.le_trans (Nat.le_of_eq List.length_drop) (Nat.sub_le _ _)) (hKW▸hkl)
   have x1:evE (run fns (n+1)) (whE rs ps Ws (whS i r way KW (slo [.none,.none,.none,.none,.none,.none,.none,.none,.none,.val (.int (b:Int)),s 10,s 11,s 12,s 13]))) (.slcB (.loc 8) (.loc 9) (.bin .Add (.loc 9) (.int 2)))=M.pure (.lst ((KW.drop b).take 2)):=congrArg M.lift (slc_l b hK)
   exact⟨_,slo [.none,.none,.none,.none,.none,.none,.none,.none,.none,.val (.int (b:Int)),.val (.tup [.int 26,.int 13,.tup ((KW.drop b).take 2)]),s 11,s 12,s 13],oS (.v 2 r.row<|.v 2 (.int way)<|.m 0 (.lst KW)<|.y 0 (.bool true)<|.y 0 (.int (b:Int))<|.m 0 (.lst ((((kids.drop b).take 2).map λq=>q.sm.isK).map V.bool))<|.b 0 true<|.m 2 (.lst ((KW.drop b).take 2))<|.v 0 (.tup ((KW.drop b).take 2))<|.v 3 (.lst (KW.take b))<|.v 2 (.lst (KW.take b++[.tup [.int 26,.int 13,.tup ((KW.drop b).take 2)]]))<|.v 3 (.lst (KW.drop (b+2)))<|.v 0 (.lst (KW.take b++[.tup [.int 26,.int 13,.tup ((KW.drop b).take 2)]]++KW.drop (b+2))) .e)
    (λ_ ez=>ai g0<|ai g3<|ai c1<|ai hc<|ai hx<|ai cc<|ai hn<|ai x1<|ai (tupL hT)<|ai (slc_h (xs:=KW) b hK)<|ai (addL (p:=KW.take b) (q:=[.tup [.int 26,.int 13,.tup ((KW.drop b).take 2)]]) (Nat.le_trans (Nat.succ_le_succ hA) (Nat.le_of_ble_eq_true rfl)))<|ai (slc_r (xs:=KW) b hK)<|ai (addL (p:=KW.take b++[.tup [.int 26,.int 13,.tup ((KW.drop b).take 2)]]) (q:=KW.drop (b+2)) (Nat.le_trans (Nat.add_le_add (Nat.le_trans (Nat.le_of_eq List.length_append) (Nat.succ_le_succ hA)) hD) (Nat.le_of_ble_eq_true rfl))) ez),.br b (eq_of_beq e.1) hb hall⟩
end
noncomputable def WF(W:V)(q:Rec):Prop:=FA (3*q.h+6) W (q.sm.sv q.k)/\∃p,W=.tup p
section
variable{n g b:Nat}{pre rest kids rs:List Rec}{r:Rec}{Ws KW P:List V}{way i:Int}{ps:List Int}{s:Sl}
theorem isK_rk(st:Stp kids r)(s:Sem r)(e:r.sm.isK=true):r.rk=r.k/\∃v,r.sm=.K v/\Okv r.h r.k v:=by
 have hk:r.rk=r.k:=by
  rcases st.rk with q|⟨_,q,_⟩
  ·exact q
  ·rw[q]at e;exact Bool.noConfusion (e)
 obtain⟨v,q⟩:=isK_ex e
 exact⟨hk,v,q,(q▸s.om:StaOk r.h r.k (.K v)).ok⟩
theorem whole_B(hway:way=1\/way=2\/way=3\/((way==1)=false/\(way==2)=false/\(way==3)=false))(hs:Sem r)(hst:Stp kids r)(hh:r.h<=6)(hz:Ws.length<lim)(g1:subV (.lst (rs.map λq=>.int q.mm)) (.int i)=some (.int r.mm))(g2:subV (.lst (rs.map λq=>q.sm.sv q.k)) (.int i)=some (r.sm.sv r.k))
  {e:V}(e1:∀m,run fns (m+1) 44 [r.row,.lst P,.int r.mm]=M.pure e)(e2:FA (3*r.h+5) e (r.sm.sv r.k))(e3:∃p,e=.tup p):
  ∃W t,evSs (run fns (n+40)) (whE rs ps Ws (whS i r way P s)) wR=M.pure (.next,whE rs ps (Ws++[W]) t)/\WF W r:=by
 have fin:∀W,evSs (run fns (n+40)) (whE rs ps Ws (whS i r way P s)) wR=M.pure (.next,whE rs ps (Ws++[W]) (slo [.none,.none,.none,.none,.none,.val (.int i),.val r.row,.val (.int way),.val (.lst P),s 9,s 10,.val W,s 12,s 13]))->WF W r->∃W t,evSs (run fns (n+40)) (whE rs ps Ws (whS i r way P s)) wR=M.pure (.next,whE rs ps (Ws++[W]) t)/\WF W r:=λW h w=>⟨W,_,h,w⟩
 have we:WF e r:=⟨e2.le (Nat.le_succ _),e3⟩
 have f44:=e1 (n+39)
 have f35:run fns (n+40) 35 [e]=M.pure (r.sm.sv r.k):=run_at (by lia) (e2 (n+(27-3*r.h)))
 have st45:=hs.om.st (n+39)
 have hK:=call1 (ρ:=whE rs ps Ws (slo [.none,.none,.none,.none,.none,.val (.int i),.val r.row,.val (.int way),.val (.lst P),s 9,s 10,.val e,s 12,s 13])) (e:=.sub (.loc 2) (.loc 5)) (f:=45) (Φ:=run fns (n+40)) (x:=r.sm.sv r.k) (congrArg M.lift g2)
 rw[st45]at hK
 rcases hway with rfl|rfl|rfl|⟨w1,w2,w3⟩
 ·exact fin (r.sm.sv r.k) (oS (.v 4 (.int r.mm)<|.m 0 e<|.m 5 (r.sm.sv r.k)<|.b 2 true .e) (λ_ ez=>ai g1<|ai f44<|ai f35<|ai (dt hz) ez)) ⟨hs.om.fa.le (Nat.add_le_add (Nat.le_mul_of_pos_left _ (Nat.succ_pos _)) (by decide)),hs.om.tp.tup⟩
 ·have g:=bo2 (e1:=.cmp .Eq (.loc 7) (.int 2)) (b1:=true) rfl hK rfl
  cases eK:r.sm.isK with
  |false=>
   rw[eK]at g
   exact fin e (oS (.v 4 (.int r.mm)<|.m 0 e<|.y 0 (.bool false)<|.b 10 true .e) (λ_ ez=>ai g1<|ai f44<|ai g<|ai (dt hz) ez)) we
  |true=>
   rw[eK]at g
   obtain⟨rk,v,ev,o⟩:=isK_rk hst hs eK
   refine fin (.tup [.int 19,.int r.rk,e,.int 10,.int 0]) (oS (.v 4 (.int r.mm)<|.m 0 e<|.y 0 (.bool true)<|.b 8 true .e) (λ_ ez=>ai g1<|ai f44<|ai g<|ai (dt hz) ez)) ⟨?_,_,rfl⟩
   rw[ev]at e2 ⊢
   rw[rk]
   exact wrap_same o e2 e3
 ·have g:=bo4 (e1:=.cmp .Eq (.loc 7) (.int 3)) (e3:=.cmp .LtE (.int 2) (.sub (.loc 6) (.int 1))) (e4:=.cmp .LtE (.sub (.loc 6) (.int 1)) (.int 10)) (b1:=true) (b3:=decide (2<=r.rk)) (b4:=decide (r.rk<=10)) rfl hK rfl rfl rfl
  cases eK:true&&(r.sm.isK&&(decide (2<=r.rk)&&decide (r.rk<=10)))with
  |false=>
   rw[eK]at g
   exact fin e (oS (.v 4 (.int r.mm)<|.m 0 e<|.y 1 (.bool false)<|.b 4 true .e) (λ_ ez=>ai g1<|ai f44<|ai g<|ai (dt hz) ez)) we
  |true=>
   rw[eK]at g
   obtain⟨eK,b⟩:=Bool.and_eq_true_iff.mp (show(r.sm.isK&&(decide (2<=r.rk)&&decide (r.rk<=10)))=true from eK)
   obtain⟨b1,b2⟩:=Bool.and_eq_true_iff.mp b
   obtain⟨rk,v,ev,o⟩:=isK_rk hst hs eK
   refine fin (.tup [.int 19,.int r.rk,e,.int 1,.int (i.fmod 2)]) (oS (.v 4 (.int r.mm)<|.m 0 e<|.y 1 (.bool true)<|.v 6 (.int (i.fmod 2))<|.b 3 true .e) (λ_ ez=>ai g1<|ai f44<|ai g<|ai (bmod (a:=i) (b:=2) (nofun))<|ai (dt hz) ez)) ⟨?_,_,rfl⟩
   rw[ev]at e2 ⊢
   rw[rk]at b1 b2 ⊢
   exact wrap_num o (of_decide_eq_true b1) (of_decide_eq_true b2) e2 e3
 ·exact fin e (oS (.v 4 (.int r.mm)<|.m 0 e<|.b 3 false<|.b 1 false<|.b 5 false<|.b 6 true .e) (λ_ ez=>ai g1<|ai f44<|ai w1<|ai (sm w2)<|ai (sm w3)<|ai (dt hz) ez)) we
theorem way4(h:way=0\/way=1\/way=2\/way=3\/way=4\/way=5):way=1\/way=2\/way=3\/((way==1)=false/\(way==2)=false/\(way==3)=false):=by
 rcases h with rfl|h|h|h|rfl|rfl
 ·exact .inr (.inr (.inr ⟨rfl,rfl,rfl⟩))
 ·exact .inl h
 ·exact .inr (.inl h)
 ·exact .inr (.inr (.inl h))
 ·exact .inr (.inr (.inr ⟨rfl,rfl,rfl⟩))
 ·exact .inr (.inr (.inr ⟨rfl,rfl,rfl⟩))
theorem get_lt{α:Type}{l:List α}{j:Nat}{q:α}(h:l[j]?=some q):j<l.length:=(List.getElem?_eq_some_iff.mp h).1
theorem whole_step(s:Sl)(hrs:rs=pre++r::rest)(hlen:rs.length<=1000)(hs:Sem r)(hidx:F2 (λj q=>pre[j]?=some q) r.idx kids)(hst:Stp kids r)(hk:(∀q∈kids,Sem q/\q.h<r.h)/\kids.length<=3)(hh:r.h<=6)(hW:F2 WF Ws pre)
  (hps:ps[pre.length]?=some way)(hpl:ps.length<=1000)(hway:way=0\/way=1\/way=2\/way=3\/way=4\/way=5):
  ∃W t,evSs (run fns (n+40)) (List.set (whE rs ps Ws s) 5 (.val (.int (pre.length:Int)))) wholeB=M.pure (.next,whE rs ps (Ws++[W]) t)/\WF W r:=by
 have hget:rs[pre.length]?=some r:=by rw[hrs,List.getElem?_append_right (Nat.le_refl _),Nat.sub_self];rfl
 have hpre:∀(j:Nat)(q:Rec),pre[j]?=some q->rs[j]?=some q:=λj q hj=>by rw[hrs,List.getElem?_append_left (get_lt hj)];exact hj
 have hpl2:pre.length<=rs.length:=by rw[hrs,List.length_append];exact Nat.le_add_right _ _
 have hz:Ws.length<lim:=by rw[hW.len];exact Nat.lt_of_le_of_lt (Nat.le_trans hpl2 hlen) (Nat.le_of_ble_eq_true rfl)
 have G:∀f:Rec->V,subV (.lst (rs.map f)) (.int (pre.length:Int))=some (f r):=λf=>subL_ok (map_get (f:=f) hget) (Nat.le_of_lt (lim_lt hlen))
 have g3:subV (.lst (ps.map V.int)) (.int (pre.length:Int))=some (.int way):=subL_ok (by rw[List.getElem?_map,hps];rfl) (Nat.le_of_lt (lim_lt hpl))
 refine cps λPP kk=>?_
 obtain⟨KW,k1,k2⟩:=kid_ws hW hidx
 have c1:evE (run fns (n+40)) (whE rs ps Ws (slo [.none,.none,.none,.none,.none,.val (.int (pre.length:Int)),.val r.row,.val (.int way),s 8,s 9,s 10,s 11,s 12,s 13])) (.comp 12 (.subO 4 (.loc 12)) (.sub (.loc 6) (.int 5)) .nil)=M.pure (.lst KW):=
  pv_comp (u:=.tup (iV r.idx)) (xs:=iV r.idx) rfl (it_tup (by rw[List.length_map,hidx.len];exact Nat.le_trans hk.2 (Nat.le_of_ble_eq_true rfl))) (by rw[k2.len];exact Nat.le_trans hk.2 (Nat.le_of_ble_eq_true rfl)) (List.map_id KW▸F2_mm (b:=id) (k1.imp λj W hj=>congrArg M.lift (subL_ok hj (Nat.le_of_lt hz))))
 obtain⟨P,t,q1,q2⟩:=whole_A (n:=n+39) (s:=s) hway (G Rec.row) g3 c1 hidx hpre hlen (λq hq=>(hk.1 q hq).1) hk.2 k2.len
 have kF:F2 (λW q=>FA (3*r.h+1+2) W (q.sm.sv q.k)) KW kids/\∀W∈KW,∃p,W=.tup p:=by
  have hk':=hk.1
  clear hk k1 c1 q1 q2 hst hidx
  induction k2 with
  |nil=>exact⟨.nil,λW hW=>nomatch hW⟩
  |cons w _ ih=>
   obtain⟨a,b⟩:=ih λq hq=>hk' q (.tail _ hq)
   refine⟨.cons (w.1.le ?_) a,λW hW=>?_⟩
   ·exact Nat.le_trans (Nat.le_of_eq (Nat.mul_succ 3 _▸rfl)) (Nat.add_le_add_right (Nat.mul_le_mul_left 3 (hk' _ (.head _)).2) 3)
   ·cases hW with
    |head=>exact w.2
    |tail _ hW=>exact b W hW
 have hE:∃e,(∀m,run fns (m+1) 44 [r.row,.lst P,.int r.mm]=M.pure e)/\FA (3*r.h+5) e (r.sm.sv r.k)/\∃p,e=.tup p:=by
  cases q2 with
  |same=>
   obtain⟨e,e1,e2,e3⟩:=hst.wh (3*r.h+1) _ kF.1 kF.2
   exact⟨e,e1,e2.le (Nat.le_succ _),e3⟩
  |br b h26 hb hall=>exact hst.wb h26 (3*r.h+1) KW b kF.1 kF.2 hb hall
 obtain⟨e,e1,e2,e3⟩:=hE
 obtain⟨W,t',h,w⟩:=whole_B (n:=n) (ps:=ps) (s:=t) (way4 hway) hs hst hh hz (G λq=>.int q.mm) (G λq=>q.sm.sv q.k) e1 e2 e3
 exact kk ⟨W,t',(evSs_cut q1).trans h,w⟩
end
section
variable{n:Nat}{rs:List Rec}{ps:List Int}
theorem way6{x:Int}(h:0<=x/\x<=5):x=0\/x=1\/x=2\/x=3\/x=4\/x=5:=by lia
theorem F2.snoc{α β:Type}{R:α->β->Prop}{as:List α}{bs:List β}{a:α}{b:β}(f:F2 R as bs)(h:R a b):F2 R (as++[a]) (bs++[b]):=f.app (.cons h .nil)
theorem whole_loop(hlen:rs.length<=1000)(hh:∀r∈rs,r.h<=6)(hpl:ps.length=rs.length)(hps:∀x∈ps,0<=x/\x<=5){pre rest:List Rec}(hv:VL pre rest):rs=pre++rest->∀(Ws:List V),F2 WF Ws pre->∀s:Sl,
  ∃Ws' t,loopL (λv ρ=>evSs (run fns (n+40)) (List.set ρ 5 (.val v)) wholeB) ((List.range' pre.length rest.length).map λ(i:Nat)=>V.int i) (whE rs ps Ws s)=M.pure (.next,whE rs ps Ws' t)/\F2 WF Ws' rs:=by
 induction hv with
 |nil=>exactλe Ws hW s=>⟨Ws,s,rfl,e▸List.append_nil _▸hW⟩
 |@cons pre rest kids r hs hidx hstep hk hrest ih=>
  intro e Ws hW s
  have hi:pre.length<ps.length:=by rw[hpl,e,List.length_append];exact Nat.lt_add_of_pos_right (Nat.succ_pos _)
  obtain⟨W,t,q1,q2⟩:=whole_step (n:=n) s e hlen hs hidx hstep hk (hh r (by rw[e];exact List.mem_append_right _ (.head _))) hW (List.getElem?_eq_getElem hi) (hpl▸hlen) (way6 (hps _ (List.getElem_mem hi)))
  obtain⟨Ws',u,q3,q4⟩:=ih (e.trans (List.append_assoc pre [r] rest).symm) (Ws++[W]) (hW.snoc q2) t
  refine⟨Ws',u,?_,q4⟩
  rw[List.length_append]at q3
  rw[List.length_cons,List.range'_succ,List.map_cons,loop_cons,q1]
  exact q3
theorem sub_last{Ws:List V}{W:V}(hl:Ws.length<=lim)(h:Ws[Ws.length-1]?=some W)(h0:Ws.length≠0):subV (.lst Ws) (.int (-1))=some W:=by
 show subL Ws (-1)=_
 unfold subL
 rw[if_neg ((nofun)),if_pos ⟨by unfold lim;exact Int.natCast_nonneg _,by exact Int.natCast_nonneg _,by lia⟩]
 have:((-1:Int)+(Ws.length:Int)).toNat=Ws.length-1:=by lia
 rw[this,h]
theorem whole_run{r:Rec}{rs0:List Rec}(he:rs=rs0++[r])(hv:VL [] rs)(hlen:rs.length<=1000)(hh:∀r∈rs,r.h<=6)(hpl:ps.length=rs.length)(hps:∀x∈ps,0<=x/\x<=5)(n:Nat):
  ∃W,run fns (n+41) 47 [.lst (rs.map Rec.row),.lst (rs.map λq=>.int q.mm),.lst (rs.map λq=>q.sm.sv q.k),.lst (ps.map V.int)]=M.pure W/\WF W r:=by
 obtain⟨Ws,t,hloop,hW⟩:=whole_loop (n:=n) hlen hh hpl hps hv rfl [] .nil λ_=>.none
 have hl:Ws.length=rs0.length+1:=hW.len.trans (he▸List.length_append)
 obtain⟨W,hg,hWF⟩:=hW.get (i:=rs0.length) (b:=r) (by rw[he,List.getElem?_append_right (Nat.le_refl _),Nat.sub_self];rfl)
 have L:rs.length<=lim:=Nat.le_trans hlen (Nat.le_of_ble_eq_true rfl)
 have h1:bifV .len [.lst (rs.map Rec.row)]=some (.int rs.length):=List.length_map Rec.row▸lenL (r:=rs.map Rec.row) (Nat.le_of_lt (lim_lt hlen))
 have h2:bifV .range [.int (rs.length:Int)]=some (.rng (rs.length:Int)):=if_pos (Int.ofNat_le.mpr L)
 have h3:itemsV (.rng (rs.length:Int))=some ((List.range' 0 rs.length).map λ(i:Nat)=>V.int i):=by rw[it_rng,List.range_eq_range']
 have h4:subV (.lst Ws) (.int (-1))=some W:=sub_last (hW.len▸L) (by rw[hl];exact hg) (hl▸Nat.succ_ne_zero _)
 exact⟨W,oC f_law_whole (.v 1 (.int rs.length)<|.v 0 (.rng rs.length)<|.l 0 ((List.range' 0 rs.length).map λ(i:Nat)=>V.int i)<|.q 0 .next (whE rs ps Ws t)<|.v 2 W .e) (λ_ ez=>ai h1<|ai h2<|ai h3<|ai hloop<|ai h4 ez),hWF⟩
end
noncomputable def asB:Ss:=f_law_as_meant.body.tl.tl.tl.tl.tl.tl.tl.hd.bod
section
variable{Φ:Nat->List V->M V}{ρ:Env'}
theorem cmp2{o:CmpOp}{a c:E}{x y:V}{t:Bool}(ha:evE Φ ρ a=M.pure x)(hc:evE Φ ρ c=M.pure y)(h:cmpV o x y=some t):evE Φ ρ (.cmp o a c)=M.pure (.bool t):=by
 show M.bind (evE Φ ρ a) (λx=>M.bind (evE Φ ρ c) λy=>(M.lift (cmpV o x y)).bind λt=>M.pure (V.bool t))=_
 rw[ha,M.pure_bind,hc,M.pure_bind,h];rfl
theorem not1{a:E}{b:Bool}(h:evE Φ ρ a=M.pure (.bool b)):evE Φ ρ (.not a)=M.pure (.bool (!b)):=by
 show M.bind (evE Φ ρ a) _=_
 rw[h];rfl
theorem boT{e1 e2:E}{r:Es}(h1:evE Φ ρ e1=M.pure (.bool true)):evE Φ ρ (.boo false (.cons e1 (.cons e2 r)))=M.pure (.bool true):=by
 show M.bind (evE Φ ρ e1) _=_
 rw[h1];rfl
theorem boFc{e1 e2:E}{r:Es}(h1:evE Φ ρ e1=M.pure (.bool false))(h:evE Φ ρ (.boo false (.cons e2 r))=M.pure (.bool false)):evE Φ ρ (.boo false (.cons e1 (.cons e2 r)))=M.pure (.bool false):=by
 show M.bind (evE Φ ρ e1) _=_
 rw[h1];exact h
theorem boTF{e1 e2 e3:E}{r:Es}(h1:evE Φ ρ e1=M.pure (.bool true))(h2:evE Φ ρ e2=M.pure (.bool false)):evE Φ ρ (.boo true (.cons e1 (.cons e2 (.cons e3 r))))=M.pure (.bool false):=by
 show M.bind (evE Φ ρ e1) _=_
 rw[h1]
 show M.bind (evE Φ ρ e2) _=_
 rw[h2];rfl
end
section
variable{n:Nat}{pre rest kids rs:List Rec}{r:Rec}{d2 d3 d4 d5:V}{s:Sl}
theorem mean_K1(s:Sem r):(r.mst==1)=r.ss.isK:=by
 have key:∀{x:Sta}{m:V},MeanOk r.k x m->m=r.mean->(r.mst==1)=x.isK:=λm e=>by
  cases m with
  |K v g=>rw[show r.mst=_ from(V.int.inj (List.cons.inj (V.tup.inj e)).1).symm];rfl
  |N g=>rw[show r.mst=_ from(V.int.inj (List.cons.inj (V.tup.inj e)).1).symm];rfl
  |U S a g=>rw[show r.mst=_ from(V.int.inj (List.cons.inj (V.tup.inj e)).1).symm];rfl
  |V S g _=>rw[show r.mst=_ from(V.int.inj (List.cons.inj (V.tup.inj e)).1).symm];rfl
 exact key s.me rfl
theorem mean_mv(s:Sem r):(∀v,r.ss=.K v->r.mv=v)/\(r.ss.isK=false->(∃a,r.mv=.int a)\/(r.k=41/\r.mv=.none))/\Pd 0 r.mv:=by
 have hv:∀{a b v w:V}{l l':List V},V.tup (a::v::l)=V.tup (b::w::l')->w=v:=λe=>((List.cons.inj (List.cons.inj (V.tup.inj e)).2).1).symm
 have key:∀{x:Sta}{m:V},StaOk r.h r.k x->MeanOk r.k x m->m=r.mean->(∀v,x=.K v->r.mv=v)/\(x.isK=false->(∃a,r.mv=.int a)\/(r.k=41/\r.mv=.none))/\Pd 0 r.mv:=λo m e=>by
  cases m with
  |K v g=>rw[hv e];exact⟨λx e=>Sta.K.inj e,λe=>Bool.noConfusion e,o.ok.pd⟩
  |N g=>rw[hv e];exact⟨λx e=>(nomatch e),λ_=>.inr ⟨by cases o;assumption,rfl⟩,pd_none⟩
  |U S a g=>rw[hv e];exact⟨λx e=>(nomatch e),λ_=>.inl ⟨a,rfl⟩,pd_int⟩
  |V S g q=>rw[hv e];exact⟨λx e=>(nomatch e),λ_=>.inr ⟨q,rfl⟩,pd_none⟩
 exact key s.os s.me rfl
theorem con_pd0{k:Int}{v:V}(p:Pd 0 v):Pd 1 (con k v):=Pds.tup (.i (.i (.cons p .nil)))
theorem ceq_of{a b:V}{d e:Nat}{t:Bool}(p:Pd d a)(q:Pd e b)(hd:e<=500)(h:a.beq b=t):cmpV .Eq a b=some t/\cmpV .NotEq a b=some (!t):=by
 have hc:(a.plain&&b.plain)=true/\min a.depth b.depth<=500:=⟨Bool.and_eq_true_iff.mpr ⟨p.1,q.1⟩,Nat.le_trans (Nat.min_le_right _ _) (Nat.le_trans q.2 hd)⟩
 subst h
 exact⟨if_pos hc,if_pos hc⟩
theorem want_eq(st:Stp kids r)(s:Sem r):(r.ss.sv r.k).beq (con r.rk r.mv)=r.ss.isK:=by
 obtain⟨m1,m2,m3⟩:=mean_mv s
 have o:=s.os
 cases hs:r.ss with
 |K v=>
  rw[hs]at o
  have hk:r.rk=r.k:=by
   rcases st.rk with q|⟨_,_,q,_⟩
   ·exact q
   ·rw[hs]at q;exact nomatch q
  rw[hk,m1 v hs]
  show(con r.k v).beq (con r.k v)=true
  exact beq_refl _ (con_pd o.ok (d:=0)).1
 |N=>rfl
 |U S=>
  rw[hs]at o m2
  cases o with
  |U u _ _ _ _=>
   obtain⟨c,p,e,hc⟩:=u.hd
   rcases hc with hc|hc
   ·show S.beq _=false
    rw[e]
    show(c==1&&V.beqs p [.int r.rk,r.mv])=false
    rw[hc];rfl
   ·show S.beq _=false
    rw[hc]
    show((15:Int)==r.rk&&(V.beq .none r.mv&&true))=false
    rcases m2 rfl with⟨a,q⟩|⟨q,q2⟩
    ·rw[q];exact Bool.and_false _
    ·rcases st.rk with q3|⟨_,_,_,q3⟩
     ·rw[q3,q];rfl
     ·rw[q3];exact Bool.and_false _
theorem all_dec(kids:List Rec):decide (false∉kids.map Rec.clean)=kids.all Rec.clean:=by
 induction kids with
 |nil=>rfl
 |cons q kids ih=>
  rw[List.all_cons,←ih,List.map_cons]
  cases q.clean with
  |false=>exact decide_eq_false λh=>h (.head _)
  |true=>exact decide_eq_decide.mpr ⟨λh m=>h (.tail _ m),λh m=>by cases m with|tail _ m=>exact h m⟩
theorem nin20{f:Int}(h:f=0\/f=20):cmpV .NotIn (.int f) (.tup [.int 0,.int 20])=some false:=by rcases h with rfl|rfl<;>rfl
theorem sim_K1{h:Nat}{v:V}{t:Sta}(o:Sim h (.K v) t):t=.K v:=by cases o;rfl
noncomputable abbrev aE(rs:List Rec)(d2 d3 d4:V)(Me Cl:List V)(s:Sl):Env':=
 [.val (.lst (rs.map Rec.row)),.val (.lst (rs.map λq=>q.sm.sv q.k)),.val (.tup [.lst (rs.map λq=>q.ss.sv q.k),.lst (rs.map λq=>.int q.fs),d2]),.val d3,.val (.tup [.lst (rs.map λq=>q.sl.sv q.k),.lst (rs.map λq=>.int q.fl),d4]),.own Me,.own Cl,s 7,s 8,s 9,s 10,s 11,s 12,s 13]
noncomputable abbrev aS(i:Int)(r:Rec)(b:Bool)(s:Sl):Sl:=slo [.none,.none,.none,.none,.none,.none,.none,.val (.int i),.val r.row,.val r.mean,.val (.bool b),s 11,s 12,s 13]
section
variable{Me Cl:List V}{i:Int}{b:Bool}(h11:s 11=.val (con r.rk r.mv))
include h11
theorem as_get:getV (aE rs d2 d3 d4 Me Cl (aS i r b s)) 11=some (con r.rk r.mv):=by
 show getV [s 11] 0=_
 rw[h11];rfl
theorem as_b1(hs:Sem r)(hst:Stp kids r)(g2:subV (.lst (rs.map λq=>q.ss.sv q.k)) (.int i)=some (r.ss.sv r.k))(g3:subV (.lst (rs.map λq=>.int q.fs)) (.int i)=some (.int r.fs)):
  evE (run fns (n+1)) (aE rs d2 d3 d4 Me Cl (aS i r b s)) (.boo false (.cons (.cmp .NotEq (.sub (.sub (.loc 2) (.int 1)) (.loc 7)) (.sub (.loc 9) (.int 2))) (.cons (.cmp .NotEq (.cmp .Eq (.sub (.sub (.loc 2) (.int 0)) (.loc 7)) (.loc 11)) (.cmp .Eq (.sub (.loc 9) (.int 0)) (.int 1))) (.cons (.cmp .NotEq (.call 45 (.cons (.sub (.sub (.loc 2) (.int 0)) (.loc 7)) .nil)) (.cmp .Eq (.sub (.loc 9) (.int 0)) (.int 1))) .nil))))=M.pure (.bool false):=by
 have e2:evE (run fns (n+1)) (aE rs d2 d3 d4 Me Cl (aS i r b s)) (.sub (.sub (.loc 2) (.int 0)) (.loc 7))=M.pure (r.ss.sv r.k):=congrArg M.lift g2
 have em:evE (run fns (n+1)) (aE rs d2 d3 d4 Me Cl (aS i r b s)) (.cmp .Eq (.sub (.loc 9) (.int 0)) (.int 1))=M.pure (.bool r.ss.isK):=congrArg (λx=>M.pure (V.bool x)) (mean_K1 hs)
 have ww:evE (run fns (n+1)) (aE rs d2 d3 d4 Me Cl (aS i r b s)) (.loc 11)=M.pure (con r.rk r.mv):=congrArg M.lift (as_get h11)
 have nb:∀b:Bool,cmpV .NotEq (.bool b) (.bool b)=some false:=λb=>by cases b<;>rfl
 have e1:evE (run fns (n+1)) (aE rs d2 d3 d4 Me Cl (aS i r b s)) (.sub (.sub (.loc 2) (.int 1)) (.loc 7))=M.pure (.int r.fs):=congrArg M.lift g3
 exact boFc (cmp2 (y:=.int r.fs) e1 rfl (ne_self (d:=0) pd_int (Nat.zero_le _))) (boFc (cmp2 (cmp2 e2 ww (ceq_of hs.os.pd (con_pd0 (mean_mv hs).2.2) (Nat.succ_pos _) (want_eq hst hs)).1) em (nb _)) (cmp2 ((call1 e2).trans (hs.os.st n)) em (nb _)))
theorem as_b2(hs:Sem r)(hst:Stp kids r)(cl:subV (.lst Cl) (.int i)=some (.bool r.clean))(g1:subV (.lst (rs.map λq=>q.sm.sv q.k)) (.int i)=some (r.sm.sv r.k))(g4:subV (.lst (rs.map λq=>q.sl.sv q.k)) (.int i)=some (r.sl.sv r.k)):
  evE (run fns n) (aE rs d2 d3 d4 Me Cl (aS i r b s)) (.boo true (.cons (.subO 6 (.loc 7)) (.cons (.cmp .Eq (.sub (.loc 9) (.int 0)) (.int 1)) (.cons (.boo false (.cons (.cmp .NotEq (.sub (.sub (.loc 4) (.int 0)) (.loc 7)) (.loc 11)) (.cons (.cmp .NotEq (.sub (.loc 1) (.loc 7)) (.loc 11)) .nil))) .nil))))=M.pure (.bool false):=by
 have v3:=con_pd0 (mean_mv hs).2.2 (k:=r.rk)
 have ww:evE (run fns n) (aE rs d2 d3 d4 Me Cl (aS i r b s)) (.loc 11)=M.pure (con r.rk r.mv):=congrArg M.lift (as_get h11)
 have e4:evE (run fns n) (aE rs d2 d3 d4 Me Cl (aS i r b s)) (.sub (.sub (.loc 4) (.int 0)) (.loc 7))=M.pure (r.sl.sv r.k):=congrArg M.lift g4
 have e1:evE (run fns n) (aE rs d2 d3 d4 Me Cl (aS i r b s)) (.sub (.loc 1) (.loc 7))=M.pure (r.sm.sv r.k):=congrArg M.lift g1
 have e6:evE (run fns n) (aE rs d2 d3 d4 Me Cl (aS i r b s)) (.subO 6 (.loc 7))=M.pure (.bool r.clean):=congrArg M.lift cl
 refine bo3 (b2:=r.ss.isK) e6 (congrArg (λx=>M.pure (V.bool x)) (mean_K1 hs)) (bo2o (cmp2 e4 ww (ceq_of hs.ol.pd v3 (Nat.succ_pos _) rfl).2) (cmp2 e1 ww (ceq_of hs.om.pd v3 (Nat.succ_pos _) rfl).2) rfl) ?_
 cases c:r.clean with
 |false=>rfl
 |true=>cases q:r.ss.isK with
  |false=>rfl
  |true=>
   have w:=want_eq hst hs
   rw[q]at w
   obtain⟨v,e⟩:=isK_ex q
   have sl:=hs.siml c
   have sm:=hs.simm c
   rw[e]at sl sm w
   rw[sim_K1 sl,sim_K1 sm,w];rfl
end
theorem as_b4{Me Cl:List V}{i:Int}(hst:Stp kids r)(g4:subV (.lst (rs.map λq=>q.sl.sv q.k)) (.int i)=some (r.sl.sv r.k)):
  evE (run fns (n+2)) (aE rs d2 d3 d4 Me Cl (aS i r (kids.all Rec.clean) s)) (.boo true (.cons (.loc 10) (.cons (.cmp .Gt (.sub (.loc 9) (.int 2)) (.int 20)) (.cons (.not (.call 53 (.cons (.loc 8) (.cons (.sub (.sub (.loc 4) (.int 0)) (.loc 7)) (.cons (.sub (.loc 9) (.int 1)) .nil))))) .nil))))=M.pure (.bool false):=by
 cases e1:kids.all Rec.clean with
 |false=>rfl
 |true=>
  by_cases e2:20<r.fs
  ·have e4:evE (run fns (n+2)) (aE rs d2 d3 d4 Me Cl (aS i r true s)) (.sub (.sub (.loc 4) (.int 0)) (.loc 7))=M.pure (r.sl.sv r.k):=congrArg M.lift g4
   have e5:evE (run fns (n+2)) (aE rs d2 d3 d4 Me Cl (aS i r true s)) (.call 53 (.cons (.loc 8) (.cons (.sub (.sub (.loc 4) (.int 0)) (.loc 7)) (.cons (.sub (.loc 9) (.int 1)) .nil))))=M.pure (.bool true):=by
    show M.bind (M.bind (M.pure r.row) λx=>M.bind (M.bind (evE _ _ (.sub (.sub (.loc 4) (.int 0)) (.loc 7))) λy=>M.bind (M.bind (M.pure r.mv) λz=>M.bind (M.pure []) λl=>M.pure (z::l)) λl=>M.pure (y::l)) λl=>M.pure (x::l)) _=_
    rw[e4]
    exact hst.tu e1 e2 n
   exact bo3 (b1:=true) (b2:=decide (20<r.fs)) rfl rfl (not1 e5) (by rw[decide_eq_true e2];rfl)
  ·exact boTF rfl (congrArg (λx=>M.pure (V.bool x)) (decide_eq_false e2))
theorem as_step(s:Sl)(hrs:rs=pre++r::rest)(hlen:rs.length<=1000)(hs:Sem r)(hidx:F2 (λj q=>pre[j]?=some q) r.idx kids)(hst:Stp kids r)(hk:(∀q∈kids,Sem q/\q.h<r.h)/\kids.length<=3)(hh:r.h<=6):
  ∃t,evSs (run fns (n+40)) (List.set (aE rs d2 d3 d4 (pre.map Rec.mean) (pre.map λq=>.bool q.clean) s) 7 (.val (.int (pre.length:Int)))) asB=M.pure (.next,aE rs d2 d3 d4 ((pre++[r]).map Rec.mean) ((pre++[r]).map λq=>.bool q.clean) t):=by
 have hget:rs[pre.length]?=some r:=by rw[hrs,List.getElem?_append_right (Nat.le_refl _),Nat.sub_self];rfl
 have hpl:pre.length<1000:=Nat.lt_of_lt_of_le (by rw[hrs,List.length_append];exact Nat.lt_add_of_pos_right (Nat.succ_pos _)) hlen
 have G:∀f:Rec->V,subV (.lst (rs.map f)) (.int (pre.length:Int))=some (f r):=λf=>subL_ok (map_get (f:=f) hget) (Nat.le_of_lt (lim_lt hlen))
 have LQ:∀f:Rec->V,decide ((pre.map f).length<lim)=true:=λf=>decide_eq_true (lim_lt (Nat.le_of_lt hpl))
 have LP:∀f:Rec->V,(pre.map f).length<=lim:=λf=>Nat.le_of_lt (lim_lt (Nat.le_of_lt hpl))
 have hi:itemsV (.tup (iV r.idx))=some (iV r.idx):=it_tup (by rw[List.length_map,hidx.len];exact Nat.le_trans hk.2 (Nat.le_of_ble_eq_true rfl))
 have hkl:kids.length<=1000:=Nat.le_trans hk.2 (by decide)
 have cl:subV (.lst (pre.map (λq=>V.bool q.clean)++[.bool r.clean])) (.int (pre.length:Int))=some (.bool r.clean):=subL_ok (by rw[List.getElem?_append_right (Nat.le_of_eq (List.length_map _)),List.length_map,Nat.sub_self];rfl) (by rw[List.length_append];exact lim_lt (Nat.le_of_lt hpl))
 have hn:=nin_b (kids.map Rec.clean)
 rw[all_dec]at hn
 refine⟨aS pre.length r (kids.all Rec.clean) (slo [.none,.none,.none,.none,.none,.none,.none,.none,.none,.none,.none,.val (con r.rk r.mv),s 12,s 13]),?_⟩
 show _=M.pure (Fl.next,[_,_,_,_,_,Slot.own ((pre++[r]).map _),Slot.own ((pre++[r]).map _),_,_,_,_,_,_,_])
 rw[List.map_append,List.map_append]
 have c1:evE (run fns (n+40)) (aE rs d2 d3 d4 (pre.map Rec.mean) (pre.map λq=>.bool q.clean) (slo [.none,.none,.none,.none,.none,.none,.none,.val (.int (pre.length:Int)),.val r.row,s 9,s 10,s 11,s 12,s 13])) (.comp 12 (.subO 5 (.loc 12)) (.sub (.loc 8) (.int 5)) .nil)=M.pure (.lst (kids.map Rec.mean)):=
  pv_comp (u:=.tup (iV r.idx)) (xs:=iV r.idx) rfl hi (Nat.le_of_lt (lim_lt hkl)) (F2_mm (hidx.imp λj q hj=>congrArg M.lift (subL_ok (map_get (f:=Rec.mean) hj) (LP _))))
 have c2:evE (run fns (n+40)) (aE rs d2 d3 d4 (pre.map Rec.mean++[r.mean]) (pre.map λq=>.bool q.clean) (slo [.none,.none,.none,.none,.none,.none,.none,.val (.int (pre.length:Int)),.val r.row,.val r.mean,s 10,s 11,s 12,s 13])) (.comp 13 (.subO 6 (.loc 13)) (.sub (.loc 8) (.int 5)) .nil)=M.pure (.lst ((kids.map Rec.clean).map V.bool)):=
  pv_comp (u:=.tup (iV r.idx)) (xs:=iV r.idx) rfl hi (by rw[List.length_map];exact Nat.le_of_lt (lim_lt hkl)) (by rw[List.map_map];exact F2_mm (hidx.imp λj q hj=>congrArg M.lift (subL_ok (map_get (f:=λq=>V.bool q.clean) hj) (LP _))))
 have a4:evE (run fns (n+40)) (aE rs d2 d3 d4 (pre.map Rec.mean++[r.mean]) (pre.map λq=>.bool q.clean) (aS pre.length r (kids.all Rec.clean) s)) (.boo true (.cons (.loc 10) (.cons (.cmp .Eq (.sub (.loc 9) (.int 2)) (.int 0)) .nil)))=M.pure (.bool r.clean):=bo2 rfl rfl hst.cl.symm
 exact oS (.v 2 r.row<|.m 1 (.lst (kids.map Rec.mean))<|.m 0 r.mean<|.b 2 true<|.m 0 (.lst ((kids.map Rec.clean).map V.bool))<|.b 0 (kids.all Rec.clean)<|.y 0 (.bool r.clean)<|.b 0 true<|.y 0 (.bool false)<|.y 0 (.bool false)<|.v 5 (.int r.fl)<|.b 1 false<|.y 0 (.bool false) .e) (λ_ ez=>ai (G Rec.row)<|ai c1<|ai (hst.me (n+37))<|ai (LQ Rec.mean)<|ai c2<|ai hn<|ai a4<|ai (LQ λq=>.bool q.clean)<|ai (as_b1 (n:=n+39) (d2:=d2) (d3:=d3) (d4:=d4) (Me:=pre.map Rec.mean++[r.mean]) (Cl:=(pre.map λq=>.bool q.clean)++[.bool r.clean]) (b:=kids.all Rec.clean) (s:=slo [.none,.none,.none,.none,.none,.none,.none,.none,.none,.none,.none,.val (con r.rk r.mv),s 12,s 13]) rfl hs hst (G λq=>q.ss.sv q.k) (G λq=>.int q.fs))<|
   ai (as_b2 (n:=n+40) (d2:=d2) (d3:=d3) (d4:=d4) (Me:=pre.map Rec.mean++[r.mean]) (Cl:=(pre.map λq=>.bool q.clean)++[.bool r.clean]) (b:=kids.all Rec.clean) (s:=slo [.none,.none,.none,.none,.none,.none,.none,.none,.none,.none,.none,.val (con r.rk r.mv),s 12,s 13]) rfl hs hst cl (G λq=>q.sm.sv q.k) (G λq=>q.sl.sv q.k))<|ai (G λq=>.int q.fl)<|ai (nin20 hst.f20)<|
   ai (as_b4 (n:=n+38) (d2:=d2) (d3:=d3) (d4:=d4) (Me:=pre.map Rec.mean++[r.mean]) (Cl:=(pre.map λq=>.bool q.clean)++[.bool r.clean]) (s:=slo [.none,.none,.none,.none,.none,.none,.none,.none,.none,.none,.none,.val (con r.rk r.mv),s 12,s 13]) hst (G λq=>q.sl.sv q.k)) ez)
end
section
variable{n:Nat}{rs:List Rec}{d2 d3 d4:V}
theorem as_loop(hlen:rs.length<=1000)(hh:∀r∈rs,r.h<=6){pre rest:List Rec}(hv:VL pre rest):rs=pre++rest->∀s:Sl,
  ∃t,loopL (λv ρ=>evSs (run fns (n+40)) (List.set ρ 7 (.val v)) asB) ((List.range' pre.length rest.length).map λ(i:Nat)=>V.int i) (aE rs d2 d3 d4 (pre.map Rec.mean) (pre.map λq=>.bool q.clean) s)=M.pure (.next,aE rs d2 d3 d4 (rs.map Rec.mean) (rs.map λq=>.bool q.clean) t):=by
 induction hv with
 |nil=>exactλe s=>⟨s,by rw[e,List.append_nil];rfl⟩
 |@cons pre rest kids r hs hidx hstep hk hrest ih=>
  intro e s
  obtain⟨t,q1⟩:=as_step (n:=n) (d2:=d2) (d3:=d3) (d4:=d4) s e hlen hs hidx hstep hk (hh r (by rw[e];exact List.mem_append_right _ (.head _)))
  obtain⟨u,q3⟩:=ih (e.trans (List.append_assoc pre [r] rest).symm) t
  rw[List.length_append]at q3
  exact⟨u,by rw[List.length_cons,List.range'_succ,List.map_cons,loop_cons,q1];exact q3⟩
theorem last_of{r:Rec}{rs0:List Rec}(he:rs=rs0++[r])(hlen:rs.length<=1000)(f:Rec->V):subV (.lst (rs.map f)) (.int (-1))=some (f r):=by
 have e:rs.map f=rs0.map f++[f r]:=by rw[he,List.map_append];rfl
 have l:(rs.map f).length=(rs0.map f).length+1:=by rw[e,List.length_append];rfl
 exact sub_last (Nat.le_of_lt (lim_lt hlen)) (by rw[l,e,Nat.add_sub_cancel,List.getElem?_append_right (Nat.le_refl _),Nat.sub_self];rfl) (l▸Nat.succ_ne_zero _)
noncomputable abbrev aZ(rs:List Rec)(t:Sl):Env':=aE rs (.lst (rs.map λq=>.int q.ms)) (.tup [.lst (rs.map λq=>q.sp.sv q.k),.lst (rs.map λq=>.int q.fs),.lst (rs.map λq=>.int q.mp)]) (.lst (rs.map λq=>.int q.ml)) (rs.map Rec.mean) (rs.map λq=>.bool q.clean) t
theorem as_run{r:Rec}{rs0:List Rec}(he:rs=rs0++[r])(hv:VL [] rs)(hr:Sem r)(hlen:rs.length<=1000)(hh:∀r∈rs,r.h<=6)(n:Nat):
  run fns (n+41) 52 [.lst (rs.map Rec.row),.lst (rs.map λq=>q.sm.sv q.k)]=M.pure (.bool true):=by
 have hrh:r.h<=6:=hh r (by rw[he];exact List.mem_append_right _ (.head _))
 have um:∀{e u},UM (2*r.h+2) e u->run fns (n+40) 51 [e]=M.pure u:=λw=>run_at (by lia) (w (n+(30-2*r.h)))
 have L:∀f:Rec->V,subV (.lst (rs.map f)) (.int (-1))=some (f r):=last_of he hlen
 refine cps λPP kk=>?_
 obtain⟨u,u1,u2,u3⟩:=hr.simp.um hr.os
 obtain⟨t,hloop⟩:=as_loop (n:=n) (d2:=.lst (rs.map λq=>.int q.ms)) (d3:=.tup [.lst (rs.map λq=>q.sp.sv q.k),.lst (rs.map λq=>.int q.fs),.lst (rs.map λq=>.int q.mp)]) (d4:=.lst (rs.map λq=>.int q.ml)) hlen hh hv rfl λ_=>.none
 have key:evE (run fns (n+40)) (aZ rs t) (.boo false (.cons (.not (.subO 6 (.neg (.int 1)))) (.cons (.cmp .Eq (.call 51 (.cons (.sub (.sub (.loc 4) (.int 0)) (.neg (.int 1))) .nil)) (.call 51 (.cons (.sub (.sub (.loc 2) (.int 0)) (.neg (.int 1))) .nil))) .nil)))=M.pure (.bool true):=by
  have e6:evE (run fns (n+40)) (aZ rs t) (.subO 6 (.neg (.int 1)))=M.pure (.bool r.clean):=congrArg M.lift (L λq=>.bool q.clean)
  have e6:=not1 e6
  cases ec:r.clean with
  |false=>rw[ec]at e6;exact boT e6
  |true=>
   rw[ec]at e6
   obtain⟨v,v1,v2,v3⟩:=(hr.siml ec).um hr.os
   have e4:evE (run fns (n+40)) (aZ rs t) (.sub (.sub (.loc 4) (.int 0)) (.neg (.int 1)))=M.pure (r.sl.sv r.k):=congrArg M.lift (L λq=>q.sl.sv q.k)
   have e2:evE (run fns (n+40)) (aZ rs t) (.sub (.sub (.loc 2) (.int 0)) (.neg (.int 1)))=M.pure (r.ss.sv r.k):=congrArg M.lift (L λq=>q.ss.sv q.k)
   exact bo2o e6 (cmp2 ((call1 e4).trans (um v2)) ((call1 e2).trans (um v1)) (eq_self v3 (by lia))) rfl
 have hneL:cmpV .NotEq (.lst (rs.map λq=>.int q.fs)) (.lst (rs.map λq=>.int q.fs))=some false:=ne_self (d:=1) (Pd.lst (d:=0) (by
  intro x hx
  obtain⟨q,_,rfl⟩:=List.mem_map.mp hx
  exact pd_int)) (Nat.succ_pos _)
 have h1:bifV .len [.lst (rs.map Rec.row)]=some (.int rs.length):=List.length_map Rec.row▸lenL (r:=rs.map Rec.row) (Nat.le_of_lt (lim_lt hlen))
 have h2:bifV .range [.int (rs.length:Int)]=some (.rng (rs.length:Int)):=if_pos (Int.ofNat_le.mpr (Nat.le_trans hlen (Nat.le_of_ble_eq_true rfl)))
 have h3:itemsV (.rng (rs.length:Int))=some ((List.range' 0 rs.length).map λ(i:Nat)=>V.int i):=by rw[it_rng,List.range_eq_range']
 exact kk (oC f_law_as_meant (.m 2 (.tup [.lst (rs.map λq=>q.ss.sv q.k),.lst (rs.map λq=>.int q.fs),.lst (rs.map λq=>.int q.ms)])<|.m 2 (.tup [.lst (rs.map λq=>q.sp.sv q.k),.lst (rs.map λq=>.int q.fs),.lst (rs.map λq=>.int q.mp)])<|.m 2 (.tup [.lst (rs.map λq=>q.sl.sv q.k),.lst (rs.map λq=>.int q.fl),.lst (rs.map λq=>.int q.ml)])<|.b 16 false<|.v 5 (r.sp.sv r.k)<|.m 0 u<|.v 3 (r.ss.sv r.k)<|.m 0 u<|.b 0 false<|
  .v 3 (.int rs.length)<|.v 0 (.rng rs.length)<|.l 0 ((List.range' 0 rs.length).map λ(i:Nat)=>V.int i)<|.q 0 .next (aZ rs t)<|.y 0 (.bool true) .e) (λ_ ez=>ai (parts_s hv hlen (n+32))<|ai (parts_p hv hlen (n+32))<|ai (parts_l hv hlen (n+32))<|ai hneL<|ai (L λq=>q.sp.sv q.k)<|ai (um u2)<|ai (L λq=>q.ss.sv q.k)<|ai (um u1)<|ai (ne_self u3 (by lia))<|ai h1<|ai h2<|ai h3<|ai hloop<|ai key ez))
end
theorem Al.get{α:Type}{P:α->Prop}{l:List α}(h:Al P l):∀{i:Nat},i<l.length->∃v,P v/\l[i]?=some v:=by
 induction h with
 |nil=>exactλh=>nomatch h
 |@cons a as p _ ih=>
  intro i
  cases i with
  |zero=>exactλ_=>⟨a,p,rfl⟩
  |succ i=>exactλh=>ih (Nat.lt_of_succ_lt_succ h)
inductive Px(P:V->Prop)(xs:List V)(x:Int):Prop
 |mk (v:V) (p:P v) (e:subV (.lst xs) (.int x)=some v) (e2:subV (.tup xs) (.int x)=some v):Px P xs x
theorem sub_al{P:V->Prop}{xs:List V}{x:Int}(a:Al P xs)(h0:0<=x)(h1:x<xs.length)(hl:xs.length<=lim):Px P xs x:=by
 obtain⟨i,rfl⟩:=Int.eq_ofNat_of_zero_le h0
 obtain⟨v,p,e⟩:=a.get (Int.ofNat_lt.mp h1)
 exact⟨v,p,subL_ok e hl,subT_ok e hl⟩
theorem fm_rng{x c:Int}(hc:0<c):0<=x.fmod c/\x.fmod c<c:=⟨Int.fmod_nonneg_of_pos x hc,Int.fmod_lt_of_pos x hc⟩
noncomputable def W.on(w:W)(j:Nat):W:={w with at_:=w.at_+j}
structure WTk(w:W):Prop where
 gv:∃gs:List Int,w.given=gs.map V.int/\gs≠[]/\gs.length<=1000
 a0:0<=w.at_
 a1:w.at_<=100000
structure WdOk(w:W):Prop where
 tk:WTk w
 fin:w.fin=false
 rl:w.rows.length<=1000
section
variable{w:W}
theorem W.on_on(w:W)(i j:Nat):(w.on i).on j=w.on (i+j):=congrArg (λa=>{w with at_:=a}) (Int.add_assoc w.at_ i j)
theorem W.on_0(w:W):w.on 0=w:=congrArg (λa=>{w with at_:=a}) (Int.add_zero w.at_)
theorem WTk.on(o:WTk w){j:Nat}(h:w.at_+j<=100000):WTk (w.on j):=⟨o.gv,Int.add_nonneg o.a0 (Int.natCast_nonneg j),h⟩
theorem WdOk.on(o:WdOk w){j:Nat}(h:w.at_+j<=100000):WdOk (w.on j):=⟨o.tk.on h,o.fin,o.rl⟩
inductive Tk(w w':W)(c:Int):Prop
 |mk (x:Int) (x0:0<=x) (x1:x<c) (e:∀n,run fns (n+1) 36 [.w,.int c] (some w)=some (.int x,some w')):Tk w w' c
theorem al_int:∀gs:List Int,Al (λv=>∃g,v=.int g) (gs.map V.int)
 |[]=>.nil
 |g::gs=>.cons ⟨g,rfl⟩ (al_int gs)
theorem take_run(o:WTk w){c:Int}(hc:0<c):Tk w (w.on 1) c:=by
 obtain⟨gs,hg,hne,hl⟩:=o.gv
 have l0:0<w.given.length:=by rw[hg,List.length_map];exact List.length_pos_iff.mpr hne
 have l1:w.given.length<lim:=by rw[hg];exact lim_lt hl
 have l1:=Nat.le_of_lt l1
 have b1:(w.given.length:Int).natAbs<big:=Nat.lt_of_le_of_lt l1 (Nat.le_of_ble_eq_true rfl)
 have r:=fm_rng (x:=w.at_) (Int.ofNat_lt.mpr l0)
 obtain⟨v,⟨g,rfl⟩,ev,_⟩:=sub_al (by rw[hg];exact al_int gs) r.1 r.2 l1
 have a1:w.at_.natAbs<=100000:=by have:=o.a0;have:=o.a1;lia
 have b0:w.at_.natAbs<big:=Nat.lt_of_le_of_lt a1 (Nat.le_of_ble_eq_true rfl)
 have d1:(w.at_.fdiv w.given.length).natAbs<big:=Nat.lt_of_le_of_lt (by rw[Int.fdiv_eq_ediv_of_nonneg _ (Int.natCast_nonneg _)];exact Int.natAbs_ediv_le_natAbs _ _) b0
 have hL:=lenL (r:=w.given) l1
 have hm:binV .Mult (.int 11) (.int (w.at_.fdiv w.given.length))=some (.int (11*w.at_.fdiv w.given.length)):=bmul ⟨by decide,d1⟩
 have n0:(w.given.length:Int)≠0:=Int.ne_of_gt (Int.ofNat_lt.mpr l0)
 exact⟨(g+11*w.at_.fdiv w.given.length).fmod c,(fm_rng hc).1,(fm_rng hc).2,λn=>oCW f_law_take (.v 6 (.int w.given.length)<|.v 0 (.int (w.at_.fmod w.given.length))<|.v 0 (.int g)<|.v 2 (.int w.given.length)<|.v 0 (.int (w.at_.fdiv w.given.length))<|.v 0 (.int (11*w.at_.fdiv w.given.length))<|.v 2 (.int ((g+11*w.at_.fdiv w.given.length).fmod c)) .e) (λez=>ai hL<|ai (bmod (a:=w.at_) n0)<|ai ev<|ai hL<|ai (bdiv ⟨n0,b0,b1⟩)<|ai hm<|ai (bmod (a:=g+11*w.at_.fdiv w.given.length) (Int.ne_of_gt hc)) ez)⟩
theorem take2(o:WTk w)(h:w.at_+1<=100000){c:Int}(hc:0<c):Tk (w.on 1) (w.on 2) c:=W.on_on w 1 1▸take_run (o.on h) hc
end
inductive Kd:Int->Prop
 |n:Kd 14
 |o:Kd 12
 |s:Kd 13
 |c:Kd 41
 |r {j lo hi:Int}:Rg j lo hi->Kd j
structure Lg(k code:Int)(sg:V)(js:List Int):Prop where
 len:js.length<=3
 kd:∀j∈js,Kd j
 rec_:∀(kids:List Rec)(h:Nat)(ck lo:Int)(idx:List Nat),kids.map Rec.k=js->(∀q∈kids,Sem q/\q.h<=h)->h<=7->((lo=0/\(ck=0\/ck=1))\/(lo=1/\ck=0))->Mk kids k (h+1) (rw6 code k sg (.int ck) (.int lo) (.tup (iV idx))) idx
section
variable{k code j:Int}{sg:V}{js:List Int}{P:Int->Prop}
theorem lg_gen{nd:List V->Int->V}{fU:List Sta->Int}(G:Gen code k sg nd js fU)(hl:js.length<=3)(hk:∀j∈js,Kd j):Lg k code sg js:=
 ⟨hl,hk,λkids h ck lo idx e hs hh hc=>gen_rec G hl kids e hs hh hc idx⟩
theorem lg_fun{nd:List V->V}{F:List Sta->Sta}(G:Fun code k sg js nd F)(hl:js.length<=3)(hk:∀j∈js,Kd j):Lg k code sg js:=
 ⟨hl,hk,λkids h ck lo idx e hs hh hc=>fun_rec G hl kids e hs hh hc idx⟩
theorem kc(a:P j)(b:∀i∈js,P i):∀i∈j::js,P i:=List.forall_mem_cons.mpr ⟨a,b⟩
theorem kn:∀i∈([]:List Int),P i:=λ_ h=>nomatch h
theorem lg1{nd:List V->Int->V}{fU:List Sta->Int}(G:Gen code k sg nd [j] fU)(a:Kd j):Lg k code sg [j]:=lg_gen G (Nat.le_of_ble_eq_true rfl) (kc a kn)
theorem lg2{i:Int}{nd:List V->Int->V}{fU:List Sta->Int}(G:Gen code k sg nd [j,i] fU)(a:Kd j)(b:Kd i):Lg k code sg [j,i]:=lg_gen G (Nat.le_of_ble_eq_true rfl) (kc a (kc b kn))
theorem lgf{nd:List V->V}{F:List Sta->Sta}(G:Fun code k sg [j] nd F)(a:Kd j):Lg k code sg [j]:=lg_fun G (Nat.le_of_ble_eq_true rfl) (kc a kn)
theorem kd1:Kd 1:=.r .bool
theorem kd7:Kd 7:=.r .i4
end
inductive Fa:V->Prop
 |mk {f lo hi wd:Int} (N:Num4 f lo hi wd):Fa (.int f)
theorem far{x:Int}(h0:0<=x)(h1:x<4):Px Fa [.int 7,.int 8,.int 9,.int 10] x:=sub_al (.cons (.mk num7)<|.cons (.mk num8)<|.cons (.mk num9)<|.cons (.mk num10) .nil) h0 h1 (Nat.le_of_ble_eq_true rfl)
inductive Dr(f:Nat)(a:List V)(w:W)(k:Int):Prop
 |mk (code:Int) (sg:V) (js:List Int) (i:Nat) (hi:i<=2) (l:Lg k code sg js) (e:∀m,run fns (m+2) f a (some w)=some (.tup [.int code,sg,.tup (js.map V.int)],some (w.on i))):Dr f a w k
theorem le12:1<=2:=Nat.le_succ 1
noncomputable abbrev tE(w what x f:V):Env':=[.val w,.val what,.val x,.val f]
theorem truth_run{w:W}(o:WTk w){what:Int}(h0:2<=what)(h1:what<=8):Dr 41 [.w,.int what] w 1:=by
 refine cps λPP kk=>?_
 obtain⟨x,x0,x1,hb⟩:=take_run o (c:=30) (Int.ofNat_lt.mpr (Nat.succ_pos _))
 have q4:=fm_rng (x:=x) (c:=4) (Int.ofNat_lt.mpr (Nat.succ_pos _))
 obtain⟨_,@⟨f,lo,hi,wd,N⟩,_,hf⟩:=far q4.1 q4.2
 have kf:Kd f:=.r N.rg
 have d4:binV .FloorDiv (.int x) (.int 4)=some (.int (x.fdiv 4)):=bdiv ⟨by exact nofun,Nat.lt_of_lt_of_le (show x.natAbs<100 by lia) (by decide),by decide⟩
 refine kk ?_
 cases e1:(what==2||what==8)with
 |true=>
  have hy:∀m,evE (run fns (m+1)) (tE .w (.int what) (.int x) (.int f)) (.boo false (.cons (.cmp .Eq (.loc 1) (.int 2)) (.cons (.cmp .Eq (.loc 1) (.int 8)) .nil)))=M.pure (.bool true):=λm=>bo2o rfl rfl e1
  cases eb:(x.fmod 2==0)with
  |true=>exact⟨15,.str (Str.ofString ""),[1,1],1,le12,lg2 (gen_log (.inl rfl) _) kd1 kd1,λm=>oCW f_law_truth (.s 1 (.int x) (some (w.on 1))<|.v 3 (.int f)<|.y 0 (.bool true)<|.b 4 true .e) (λez=>ai (hb m)<|ai hf<|ai (hy m)<|ai (sm eb) ez)⟩
  |false=>exact⟨16,.str (Str.ofString ""),[1,1],1,le12,lg2 (gen_log (.inr rfl) _) kd1 kd1,λm=>oCW f_law_truth (.s 1 (.int x) (some (w.on 1))<|.v 3 (.int f)<|.y 0 (.bool true)<|.b 4 false .e) (λez=>ai (hb m)<|ai hf<|ai (hy m)<|ai (sm eb) ez)⟩
 |false=>
  have hy:∀m,evE (run fns (m+1)) (tE .w (.int what) (.int x) (.int f)) (.boo false (.cons (.cmp .Eq (.loc 1) (.int 2)) (.cons (.cmp .Eq (.loc 1) (.int 8)) .nil)))=M.pure (.bool false):=λm=>bo2o rfl rfl e1
  cases e3:(what==3)with
  |true=>exact⟨13,_,[1],1,le12,lg1 gen_not kd1,λm=>oCW f_law_truth (.s 1 (.int x) (some (w.on 1))<|.v 3 (.int f)<|.y 0 (.bool false)<|.b 3 true .e) (λez=>ai (hb m)<|ai hf<|ai (hy m)<|ai (sm e3) ez)⟩
  |false=>
   by_cases h6:what<6
   ·have q6:=fm_rng (x:=x.fdiv 4) (c:=6) (Int.ofNat_lt.mpr (Nat.succ_pos _))
    obtain⟨v,l,_,ev⟩:=sub_al (P:=λv=>Lg 1 14 v [f,f]) (.cons (lg2 (gen_eq N.n41) kf kf)<|.cons (lg2 (gen_ne N.n41) kf kf)<|.cons (lg2 (gen_lt N) kf kf)<|.cons (lg2 (gen_le N) kf kf)<|.cons (lg2 (gen_gt N) kf kf)<|.cons (lg2 (gen_ge N) kf kf) .nil) q6.1 q6.2 (Nat.le_of_ble_eq_true rfl)
    exact⟨14,v,[f,f],1,le12,l,λm=>oCW f_law_truth (.s 1 (.int x) (some (w.on 1))<|.v 3 (.int f)<|.y 0 (.bool false)<|.b 3 false<|.b 3 true<|.v 4 (.int (x.fdiv 4))<|.v 1 v .e) (λez=>ai (hb m)<|ai hf<|ai (hy m)<|ai (sm e3)<|ai (sd h6)<|ai d4<|ai ev ez)⟩
   ·cases e6:(what==6)with
    |true=>
     have q5:=fm_rng (x:=x) (c:=5) (Int.ofNat_lt.mpr (Nat.succ_pos _))
     obtain⟨v,l,_,ev⟩:=sub_al (P:=λv=>Lg 1 14 v [1,1]) (.cons (lg2 (gen_eq (nofun)) kd1 kd1)<|.cons (lg2 (gen_ne (nofun)) kd1 kd1)<|.cons (lg2 gen_band kd1 kd1)<|.cons (lg2 gen_bor kd1 kd1)<|.cons (lg2 gen_bxor kd1 kd1) .nil) q5.1 q5.2 (Nat.le_of_ble_eq_true rfl)
     exact⟨14,v,[1,1],1,le12,l,λm=>oCW f_law_truth (.s 1 (.int x) (some (w.on 1))<|.v 3 (.int f)<|.y 0 (.bool false)<|.b 3 false<|.b 3 false<|.b 3 true<|.v 5 v .e) (λez=>ai (hb m)<|ai hf<|ai (hy m)<|ai (sm e3)<|ai (sn h6)<|ai (sm e6)<|ai ev ez)⟩
    |false=>
     have q2:=fm_rng (x:=x) (c:=2) (Int.ofNat_lt.mpr (Nat.succ_pos _))
     obtain⟨v,l,_,ev⟩:=sub_al (P:=λv=>Lg 1 14 v [13,13]) (.cons (lg2 (gen_eq (nofun)) .s .s)<|.cons (lg2 (gen_ne (nofun)) .s .s) .nil) q2.1 q2.2 (Nat.le_of_ble_eq_true rfl)
     exact⟨14,v,[13,13],1,le12,l,λm=>oCW f_law_truth (.s 1 (.int x) (some (w.on 1))<|.v 3 (.int f)<|.y 0 (.bool false)<|.b 3 false<|.b 3 false<|.b 3 false<|.v 5 v .e) (λez=>ai (hb m)<|ai hf<|ai (hy m)<|ai (sm e3)<|ai (sn h6)<|ai (sm e6)<|ai ev ez)⟩
inductive Ob:V->Prop
 |mk {j:Int} (h:j=12\/j=13):Ob (.int j)
theorem kd_obj{j:Int}(h:j=12\/j=13):Kd j:=h.elim (λe=>e▸.o) λe=>e▸.s
theorem obj_mem(x:Int):Px Ob [.int 13,.int 12,.int 13] (x.fmod 3):=
 have q:=fm_rng (x:=x) (c:=3) (Int.ofNat_lt.mpr (Nat.succ_pos _))
 sub_al (.cons (.mk (.inr rfl))<|.cons (.mk (.inl rfl))<|.cons (.mk (.inr rfl)) .nil) q.1 q.2 (Nat.le_of_ble_eq_true rfl)
theorem lrf{k b j:Int}(hb:b=2\/b=3)(hk:k=13\/k=12\/k=41)(hj:j=12\/j=13\/j=41):Lg k 19 (.int b) [j]:=lgf (gen_ref hb hk hj) (by
 rcases hj with rfl|rfl|rfl
 ·exact .o
 ·exact .s
 ·exact .c)
theorem words_run{w:W}(o:WTk w){what k:Int}(hk:k=13\/k=12\/k=41):Dr 42 [.w,.int what,.int k] w k:=by
 refine cps λPP kk=>?_
 obtain⟨x,x0,x1,hb⟩:=take_run o (c:=27) (Int.ofNat_lt.mpr (Nat.succ_pos _))
 have d3:binV .FloorDiv (.int x) (.int 3)=some (.int (x.fdiv 3)):=bdiv ⟨by exact nofun,Nat.lt_of_lt_of_le (show x.natAbs<100 by lia) (by decide),by decide⟩
 obtain⟨_,@⟨j0,q0⟩,_,e0⟩:=obj_mem (x.fdiv 3+0)
 obtain⟨_,@⟨j1,q1⟩,_,e1⟩:=obj_mem (x.fdiv 3+1)
 obtain⟨_,@⟨j2,q2⟩,_,e2⟩:=obj_mem (x.fdiv 3+2)
 refine kk ?_
 have lc:∀js:List Int,js.length<=3->js≠[]->(∀j∈js,j=12\/j=13)->Lg 13 26 (.str (Str.ofString "")) js:=λjs a b c=>lg_fun (gen_cat a b c) a λj hj=>kd_obj (c j hj)
 rcases hk with rfl|rfl|rfl
 ·by_cases h7:what<7
  ·have r:=fm_rng (x:=x) (c:=3) (Int.ofNat_lt.mpr (Nat.succ_pos _))
   have m3:binV .Mod (.int x) (.int 3)=some (.int (x.fmod 3)):=rfl
   have hn:x.fmod 3=0\/x.fmod 3=1\/x.fmod 3=2:=by lia
   rcases hn with hn|hn|hn<;>rw[hn]at m3
   ·exact⟨26,_,[j0],1,le12,lc _ (Nat.le_of_ble_eq_true rfl) nofun (kc q0 kn),λm=>oCW f_law_words (.s 1 (.int x) (some (w.on 1))<|.b 5 true<|.v 3 (.int 0)<|.v 7 (.int (x.fdiv 3))<|.v 3 (.int j0) .e) (λez=>ai (hb m)<|ai (sd h7)<|ai m3<|ai d3<|ai e0 ez)⟩
   ·exact⟨26,_,[j0,j1],1,le12,lc _ (Nat.le_of_ble_eq_true rfl) nofun (kc q0 (kc q1 kn)),λm=>oCW f_law_words (.s 1 (.int x) (some (w.on 1))<|.b 5 true<|.v 3 (.int 1)<|.v 7 (.int (x.fdiv 3))<|.v 3 (.int j0)<|.v 4 (.int (x.fdiv 3))<|.v 3 (.int j1) .e) (λez=>ai (hb m)<|ai (sd h7)<|ai m3<|ai d3<|ai e0<|ai d3<|ai e1 ez)⟩
   ·exact⟨26,_,[j0,j1,j2],1,le12,lc _ (Nat.le_of_ble_eq_true rfl) nofun (kc q0 (kc q1 (kc q2 kn))),λm=>oCW f_law_words (.s 1 (.int x) (some (w.on 1))<|.b 5 true<|.v 3 (.int 2)<|.v 7 (.int (x.fdiv 3))<|.v 3 (.int j0)<|.v 4 (.int (x.fdiv 3))<|.v 3 (.int j1)<|.v 4 (.int (x.fdiv 3))<|.v 3 (.int j2) .e) (λez=>ai (hb m)<|ai (sd h7)<|ai m3<|ai d3<|ai e0<|ai d3<|ai e1<|ai d3<|ai e2 ez)⟩
  ·cases eb:(x.fmod 2==0)with
   |true=>exact⟨19,_,[12],1,le12,lrf (.inr rfl) (.inl rfl) (.inl rfl),λm=>oCW f_law_words (.s 1 (.int x) (some (w.on 1))<|.b 5 false<|.b 8 true .e) (λez=>ai (hb m)<|ai (sn h7)<|ai (sm eb) ez)⟩
   |false=>exact⟨19,_,[14],1,le12,lgf (gen_nul (.inl rfl)) .n,λm=>oCW f_law_words (.s 1 (.int x) (some (w.on 1))<|.b 5 false<|.b 8 false .e) (λez=>ai (hb m)<|ai (sn h7)<|ai (sm eb) ez)⟩
 ·by_cases h5:what<5
  ·cases eb:(x.fmod 3==2)with
   |true=>exact⟨19,_,[7],1,le12,lg1 gen_box kd7,λm=>oCW f_law_words (.s 1 (.int x) (some (w.on 1))<|.b 15 true<|.b 4 true .e) (λez=>ai (hb m)<|ai (sd h5)<|ai (sm eb) ez)⟩
   |false=>exact⟨19,_,[13],1,le12,lrf (.inl rfl) (.inr (.inl rfl)) (.inr (.inl rfl)),λm=>oCW f_law_words (.s 1 (.int x) (some (w.on 1))<|.b 15 true<|.b 4 false .e) (λez=>ai (hb m)<|ai (sd h5)<|ai (sm eb) ez)⟩
  ·exact⟨19,_,[41],1,le12,lrf (.inl rfl) (.inr (.inl rfl)) (.inr (.inr rfl)),λm=>oCW f_law_words (.s 1 (.int x) (some (w.on 1))<|.b 15 false .e) (λez=>ai (hb m)<|ai (sn h5) ez)⟩
 ·by_cases h6:what<6
  ·exact⟨19,_,[14],1,le12,lgf (gen_nul (.inr (.inr rfl))) .n,λm=>oCW f_law_words (.s 1 (.int x) (some (w.on 1))<|.b 21 true .e) (λez=>ai (hb m)<|ai (sd h6) ez)⟩
  ·cases eb:(x.fmod 2==0)with
   |true=>exact⟨19,_,[41],1,le12,lrf (.inl rfl) (.inr (.inr rfl)) (.inr (.inr rfl)),λm=>oCW f_law_words (.s 1 (.int x) (some (w.on 1))<|.b 21 false<|.b 4 true .e) (λez=>ai (hb m)<|ai (sn h6)<|ai (sm eb) ez)⟩
   |false=>exact⟨19,_,[12],1,le12,lrf (.inr rfl) (.inr (.inr rfl)) (.inl rfl),λm=>oCW f_law_words (.s 1 (.int x) (some (w.on 1))<|.b 21 false<|.b 4 false .e) (λez=>ai (hb m)<|ai (sn h6)<|ai (sm eb) ez)⟩
theorem num_conv{w:W}(o:WTk w){what k lo hi:Int}(R:Rg k lo hi)(hk:k≠1)(hn:cmpV .NotIn (.int k) (.tup [.int 7,.int 8,.int 9,.int 10])=some true):Dr 40 [.w,.int what,.int k] w k:=by
 obtain⟨x,x0,x1,hb⟩:=take_run o (c:=4) (Int.ofNat_lt.mpr (Nat.succ_pos _))
 obtain⟨_,@⟨f,_,_,_,N⟩,_,hf⟩:=far x0 x1
 exact⟨19,.int 1,[f],1,le12,lg1 (gen_num N.rg R N.n1 hk) (.r N.rg),λm=>oCW f_law_number (.s 2 (.int x) (some (w.on 1))<|.v 0 (.int f)<|.b 2 true .e) (λez=>ai (hb m)<|ai hf<|ai hn ez)⟩
theorem Num4.nin{k lo hi wd:Int}(N:Num4 k lo hi wd):cmpV .NotIn (.int k) (.tup [.int 7,.int 8,.int 9,.int 10])=some false:=by
 rcases N.all with⟨rfl,_⟩|⟨rfl,_⟩|⟨rfl,_⟩|⟨rfl,_⟩<;>rfl
inductive Sg(k:Int)(v:V):Prop
 |f (e:cmpV .In v (.tup [.str (Str.ofString "<<"),.str (Str.ofString ">>")])=some false) (l:Lg k 14 v [k,k]):Sg k v
 |t (e:cmpV .In v (.tup [.str (Str.ofString "<<"),.str (Str.ofString ">>")])=some true) (l:Lg k 14 v [k,7]):Sg k v
inductive Nr:V->Prop
 |mk {j lo hi:Int} (R:Rg j lo hi) (n:j≠1):Nr (.int j)
theorem slc_some{f:Int}(hf:Kd f){y:Int}(y0:0<=y)(y1:y<3):∃js:List Int,js.length<=2/\(∀j∈js,Kd j)/\slcHV (.tup [.int f,.int 1]) (.int y)=some (.tup (js.map V.int)):=by
 have yy:y=0\/y=1\/y=2:=by lia
 rcases yy with rfl|rfl|rfl
 ·exact⟨[],Nat.zero_le _,kn,rfl⟩
 ·exact⟨[f],le12,kc hf kn,rfl⟩
 ·exact⟨[f,1],Nat.le_refl _,kc hf (kc kd1 kn),rfl⟩
section
variable{w:W}{what k lo hi wd f x:Int}
theorem sgs(N:Num4 k lo hi wd){y:Int}(y0:0<=y)(y1:y<10):Px (Sg k) [.str (Str.ofString "+"),.str (Str.ofString "-"),.str (Str.ofString "*"),.str (Str.ofString "/"),.str (Str.ofString "%"),.str (Str.ofString "&"),.str (Str.ofString "|"),.str (Str.ofString "^"),.str (Str.ofString "<<"),.str (Str.ofString ">>")] y:=
 have kk:Kd k:=.r N.rg
 sub_al (.cons (.f rfl (lg2 (gen_add N) kk kk))<|.cons (.f rfl (lg2 (gen_sub N) kk kk))<|.cons (.f rfl (lg2 (gen_mul N) kk kk))<|.cons (.f rfl (lg2 (gen_div N) kk kk))<|.cons (.f rfl (lg2 (gen_rem N) kk kk))<|.cons (.f rfl (lg2 (gen_and N) kk kk))<|.cons (.f rfl (lg2 (gen_or N) kk kk))<|.cons (.f rfl (lg2 (gen_xor N) kk kk))<|.cons (.t rfl (lg2 (gen_shl N) kk kd7))<|.cons (.t rfl (lg2 (gen_shr N) kk kd7)) .nil) y0 y1 (Nat.le_of_ble_eq_true rfl)
theorem num_un(N:Num4 k lo hi wd)(o:WTk w)(h1:w.at_+1<=100000)(hb:∀n,run fns (n+1) 36 [.w,.int 4] (some w)=some (.int x,some (w.on 1)))(hf:subV (.tup [.int 7,.int 8,.int 9,.int 10]) (.int x)=some (.int f))(e2:(what==2)=false)(h6:¬what<6)(e6:(what==6)=true):Dr 40 [.w,.int what,.int k] w k:=by
 have kk:Kd k:=.r N.rg
 have hn:=N.nin
 cases e79:cmpV .In (.int k) (.tup [.int 7,.int 9])with
 |none=>exact nomatch e79
 |some t=>cases t with
  |false=>exact⟨13,_,[k],1,le12,lg1 (gen_inv N) kk,λm=>oCW f_law_number (.s 2 (.int x) (some (w.on 1))<|.v 0 (.int f)<|.b 2 false<|.b 3 false<|.b 3 false<|.b 3 true<|.b 4 false .e) (λez=>ai (hb m)<|ai hf<|ai hn<|ai (sm e2)<|ai (sn h6)<|ai (sm e6)<|ai e79 ez)⟩
  |true=>
   obtain⟨y,y0,y1,hy⟩:=take2 o h1 (c:=2) (Int.ofNat_lt.mpr (Nat.succ_pos _))
   cases ey:(y==0)with
   |false=>exact⟨13,_,[k],2,Nat.le_refl _,lg1 (gen_inv N) kk,λm=>oCW f_law_number (.s 2 (.int x) (some (w.on 1))<|.v 0 (.int f)<|.b 2 false<|.b 3 false<|.b 3 false<|.b 3 true<|.b 4 true<|.s 3 (.int y) (some (w.on 2))<|.b 0 false .e) (λez=>ai (hb m)<|ai hf<|ai hn<|ai (sm e2)<|ai (sn h6)<|ai (sm e6)<|ai e79<|ai (hy m)<|ai (sm ey) ez)⟩
   |true=>exact⟨13,_,[k],2,Nat.le_refl _,lg1 (gen_neg N) kk,λm=>oCW f_law_number (.s 2 (.int x) (some (w.on 1))<|.v 0 (.int f)<|.b 2 false<|.b 3 false<|.b 3 false<|.b 3 true<|.b 4 true<|.s 3 (.int y) (some (w.on 2))<|.b 0 true .e) (λez=>ai (hb m)<|ai hf<|ai hn<|ai (sm e2)<|ai (sn h6)<|ai (sm e6)<|ai e79<|ai (hy m)<|ai (sm ey) ez)⟩
theorem num_run(o:WTk w)(h1:w.at_+1<=100000)(N:Num4 k lo hi wd):Dr 40 [.w,.int what,.int k] w k:=by
 refine cps λPP kk=>?_
 obtain⟨x,x0,x1,hb⟩:=take_run o (c:=4) (Int.ofNat_lt.mpr (Nat.succ_pos _))
 obtain⟨_,@⟨f,_,_,_,NF⟩,_,hf⟩:=far x0 x1
 refine kk ?_
 have hn:=N.nin
 cases e2:(what==2)with
 |true=>
  obtain⟨y,y0,y1,hy⟩:=take2 o h1 (c:=3) (Int.ofNat_lt.mpr (Nat.succ_pos _))
  obtain⟨js,hl,hj,es⟩:=slc_some (.r NF.rg) y0 y1
  exact⟨8,.str (Str.ofString ""),js,2,Nat.le_refl _,lg_gen (gen_call hl N.n14 _) (Nat.le_succ_of_le hl) hj,λm=>oCW f_law_number (.s 2 (.int x) (some (w.on 1))<|.v 0 (.int f)<|.b 2 false<|.b 3 true<|.s 5 (.int y) (some (w.on 2))<|.v 0 (.tup (js.map V.int)) .e) (λez=>ai (hb m)<|ai hf<|ai hn<|ai (sm e2)<|ai (hy m)<|ai es ez)⟩
 |false=>
  by_cases h6:what<6
  ·obtain⟨y,y0,y1,hy⟩:=take2 o h1 (c:=10) (Int.ofNat_lt.mpr (Nat.succ_pos _))
   obtain⟨v,p,_,ev⟩:=sgs N y0 y1
   cases p with
   |f ei l=>exact⟨14,v,_,2,Nat.le_refl _,l,λm=>oCW f_law_number (.s 2 (.int x) (some (w.on 1))<|.v 0 (.int f)<|.b 2 false<|.b 3 false<|.b 3 true<|.s 4 (.int y) (some (w.on 2))<|.v 0 v<|.b 3 false .e) (λez=>ai (hb m)<|ai hf<|ai hn<|ai (sm e2)<|ai (sd h6)<|ai (hy m)<|ai ev<|ai ei ez)⟩
   |t ei l=>exact⟨14,v,_,2,Nat.le_refl _,l,λm=>oCW f_law_number (.s 2 (.int x) (some (w.on 1))<|.v 0 (.int f)<|.b 2 false<|.b 3 false<|.b 3 true<|.s 4 (.int y) (some (w.on 2))<|.v 0 v<|.b 3 true .e) (λez=>ai (hb m)<|ai hf<|ai hn<|ai (sm e2)<|ai (sd h6)<|ai (hy m)<|ai ev<|ai ei ez)⟩
  ·cases e6:(what==6)with
   |true=>exact num_un N o h1 hb hf e2 h6 e6
   |false=>
    obtain⟨y,y0,y1,hy⟩:=take2 o h1 (c:=7) (Int.ofNat_lt.mpr (Nat.succ_pos _))
    obtain⟨_,@⟨j,_,_,R,n⟩,_,ej⟩:=sub_al (P:=Nr) (xs:=[.int f,.int 2,.int 3,.int 4,.int 5,.int 6,.int 40]) (.cons (.mk NF.rg NF.n1)<|.cons (.mk .char nofun)<|.cons (.mk .i1 nofun)<|.cons (.mk .u1 nofun)<|.cons (.mk .i2 nofun)<|.cons (.mk .u2 nofun)<|.cons (.mk .e nofun) .nil) y0 y1 (Nat.le_of_ble_eq_true rfl)
    exact⟨19,_,[j],2,Nat.le_refl _,lg1 (gen_num R N.rg n N.n1) (.r R),λm=>oCW f_law_number (.s 2 (.int x) (some (w.on 1))<|.v 0 (.int f)<|.b 2 false<|.b 3 false<|.b 3 false<|.b 3 false<|.s 5 (.int y) (some (w.on 2))<|.v 0 (.int j) .e) (λez=>ai (hb m)<|ai hf<|ai hn<|ai (sm e2)<|ai (sn h6)<|ai (sm e6)<|ai (hy m)<|ai ej ez)⟩
end
inductive Kv:Int->Prop
 |o:Kv 12
 |s:Kv 13
 |r {j lo hi:Int}:Rg j lo hi->Kv j
inductive Vr(w:W)(k:Int):Prop
 |mk (v:V) (i:Nat) (hi:i<=1) (o:Okv 0 k v) (e:∀m,run fns (m+2) 38 [.w,.int k] (some w)=some (v,some (w.on i))):Vr w k
section
variable{w:W}{k lo hi:Int}
inductive Is:V->Prop
 |mk (j:Int):Is (.int j)
theorem val_r(o:WTk w)(R:Rg k lo hi)(h1:(k==1||k==40)=false)(h2:2<=k)(h3:k<=10)(hlh:lo<=hi):Vr w k:=by
 obtain⟨x,x0,x1,hb⟩:=take_run o (c:=13) (Int.ofNat_lt.mpr (Nat.succ_pos _))
 obtain⟨_,⟨e⟩,_,ee⟩:=sub_al (P:=Is) (xs:=[.int 1,.int 2,.int 0,.int (-1),.int 3,.int 7,.int 127,.int 33,.int 300,.int 2147483647,.int (-2147483648),.int 9223372036854775807,.int (-9223372036854775808)])
  (.cons (.mk _)<|.cons (.mk _)<|.cons (.mk _)<|.cons (.mk _)<|.cons (.mk _)<|.cons (.mk _)<|.cons (.mk _)<|.cons (.mk _)<|.cons (.mk _)<|.cons (.mk _)<|.cons (.mk _)<|.cons (.mk _)<|.cons (.mk _) .nil) x0 x1 (Nat.le_of_ble_eq_true rfl)
 have c13:(k==13)=false:=beq_eq_false_iff_ne.mpr (by lia)
 have c12:(k==12)=false:=beq_eq_false_iff_ne.mpr (by lia)
 have hy:∀m,evE (run fns (m+1)) [.val .w,.val (.int k),.none,.none,.none] (.boo false (.cons (.cmp .Eq (.loc 1) (.int 1)) (.cons (.cmp .Eq (.loc 1) (.int 40)) .nil)))=M.pure (.bool false):=λm=>bo2o rfl rfl h1
 refine⟨.int (if(if lo<e then e else lo)<hi then(if lo<e then e else lo)else hi),1,Nat.le_refl _,.num R ?_ ?_,λm=>oCW f_law_value (.b 1 false<|.b 3 false<|.y 0 (.bool false)<|.m 7 (.tup [.int lo,.int hi])<|.s 5 (.int x) (some (w.on 1))<|.v 0 (.int e) .e) (λez=>ai (sm c13)<|ai (sm c12)<|ai (hy m)<|ai (R.span h2 h3 m)<|ai (hb m)<|ai ee ez)⟩
 ·split<;>split<;>omega
 ·split<;>split<;>omega
theorem val_b(o:WTk w)(R:Rg k lo hi)(hk:k=1\/k=40)(l0:lo<=0)(l1:1<=hi):Vr w k:=by
 obtain⟨x,x0,x1,hb⟩:=take_run o (c:=2) (Int.ofNat_lt.mpr (Nat.succ_pos _))
 refine⟨.int x,1,Nat.le_refl _,.num R (by lia) (by lia),?_⟩
 rcases hk with rfl|rfl
 ·exactλm=>oCW f_law_value (.s 15 (.int x) (some (w.on 1)) .e) (λez=>ai (hb m) ez)
 ·exactλm=>oCW f_law_value (.s 17 (.int x) (some (w.on 1)) .e) (λez=>ai (hb m) ez)
theorem value_run(o:WTk w)(hk:Kv k):Vr w k:=by
 cases hk with
 |o=>exact⟨.none,0,Nat.zero_le _,.null (.inl rfl),λm=>oCW f_law_value .e (λez=>ez) (by rw[W.on_0];kernel_rfl)⟩
 |s=>
  obtain⟨x,x0,x1,hb⟩:=take_run o (c:=4) (Int.ofNat_lt.mpr (Nat.succ_pos _))
  obtain⟨v,q,_,ev⟩:=sub_al (P:=Okv 0 13) (xs:=[.str (Str.ofString "a"),.str (Str.ofString ""),.str (Str.ofString "bc"),.none]) (.cons (.str (Nat.succ_pos _))<|.cons (.str (Nat.zero_le _))<|.cons (.str (by decide+kernel))<|.cons (.null (.inr (.inl rfl))) .nil) x0 x1 (Nat.le_of_ble_eq_true rfl)
  exact⟨v,1,Nat.le_refl _,q,λm=>oCW f_law_value (.s 6 (.int x) (some (w.on 1))<|.v 0 v .e) (λez=>ai (hb m)<|ai ev ez)⟩
 |r R=>
  cases R with
  |bool=>exact val_b o .bool (.inl rfl) (Int.le_refl _) (Int.le_refl _)
  |e=>exact val_b o .e (.inr rfl) (Int.le_refl _) (by decide)
  |char=>exact val_r o .char rfl (by decide) (by decide) (by decide)
  |i1=>exact val_r o .i1 rfl (by decide) (by decide) (by decide)
  |u1=>exact val_r o .u1 rfl (by decide) (by decide) (by decide)
  |i2=>exact val_r o .i2 rfl (by decide) (by decide) (by decide)
  |u2=>exact val_r o .u2 rfl (by decide) (by decide) (by decide)
  |i4=>exact val_r o .i4 rfl (by decide) (by decide) (by decide)
  |u4=>exact val_r o .u4 rfl (by decide) (by decide) (by decide)
  |i8=>exact val_r o .i8 rfl (by decide) (by decide) (by decide)
  |u8=>exact val_r o .u8 rfl (by decide) (by decide) (by decide)
theorem Kv.kd(h:Kv k):(k==14)=false:=by
 cases h with
 |r R=>cases R<;>rfl
 |_=>rfl
theorem leaf_d(h:Kv k):Mk [] k 0 (rw6 12 k (.int 0) (.int 0) (.int 0) (.tup [])) []:=by
 cases h with
 |o=>exact leaf_dn (.inr rfl)
 |s=>exact leaf_dn (.inl rfl)
 |r R=>
  by_cases q:k=40
  ·subst q;exact leaf_dE
  ·exact leaf_d0 R q
inductive Lf(w:W)(k:Int):Prop
 |mk (row:V) (i:Nat) (hi:i<=2) (r:Mk [] k 0 row []) (e:∀m,run fns (m+3) 39 [.w,.int k] (some w)=some (row,some (w.on i))):Lf w k
theorem leaf_v(o:WTk w)(h9:w.at_+1<=100000)(hk:Kv k){x:Int}(hb:∀n,run fns (n+1) 36 [.w,.int 7] (some w)=some (.int x,some (w.on 1)))(e1:(x==1)=false)(e4:(k==41)=false):Lf w k:=by
 have c14:=hk.kd
 have n14:k≠14:=beq_eq_false_iff_ne.mp c14
 have hy:∀m,evE (run fns (m+2)) [.val .w,.val (.int k),.val (.int x)] (.boo false (.cons (.cmp .Eq (.loc 2) (.int 1)) (.cons (.cmp .Eq (.loc 1) (.int 41)) .nil)))=M.pure (.bool false):=λm=>bo2o (b1:=x==1) (b2:=k==41) rfl rfl (by rw[e1,e4];rfl)
 cases e2:(x==2)with
 |true=>exact⟨_,1,le12,leaf_d hk,λm=>oCW f_law_leaf (.s 1 (.int x) (some (w.on 1))<|.b 1 false<|.y 0 (.bool false)<|.b 3 true .e) (λez=>ai (hb (m+1))<|ai (sm c14)<|ai (hy m)<|ai (sm e2) ez)⟩
 |false=>
  cases e3:(x==3)with
  |true=>exact⟨_,1,le12,leaf_bad n14,λm=>oCW f_law_leaf (.s 1 (.int x) (some (w.on 1))<|.b 1 false<|.y 0 (.bool false)<|.b 3 false<|.b 3 true .e) (λez=>ai (hb (m+1))<|ai (sm c14)<|ai (hy m)<|ai (sm e2)<|ai (sm e3) ez)⟩
  |false=>
   obtain⟨v,i,hi,ov,hv⟩:=value_run (o.on h9) hk
   rw[W.on_on]at hv
   exact⟨_,1+i,Nat.add_le_add_left hi 1,leaf_con ov,λm=>oCW f_law_leaf (.s 1 (.int x) (some (w.on 1))<|.b 1 false<|.y 0 (.bool false)<|.b 3 false<|.b 3 false<|.s 5 v (some (w.on (1+i))) .e) (λez=>ai (hb (m+1))<|ai (sm c14)<|ai (hy m)<|ai (sm e2)<|ai (sm e3)<|ai (hv m) ez)⟩
theorem leaf_l(k14:(k==14)=false){x:Int}(hb:∀n,run fns (n+1) 36 [.w,.int 7] (some w)=some (.int x,some (w.on 1)))(e1:(x==1||k==41)=true):Lf w k:=by
 have hy:∀m,evE (run fns (m+2)) [.val .w,.val (.int k),.val (.int x)] (.boo false (.cons (.cmp .Eq (.loc 2) (.int 1)) (.cons (.cmp .Eq (.loc 1) (.int 41)) .nil)))=M.pure (.bool true):=λm=>bo2o rfl rfl e1
 exact⟨_,1,le12,leaf_loc (beq_eq_false_iff_ne.mp k14),λm=>oCW f_law_leaf (.s 1 (.int x) (some (w.on 1))<|.b 1 false<|.y 0 (.bool true) .e) (λez=>ai (hb (m+1))<|ai (sm k14)<|ai (hy m) ez)⟩
theorem leaf_k(o:WTk w)(h9:w.at_+1<=100000)(hk:Kv k)(e4:(k==41)=false):Lf w k:=by
 obtain⟨x,x0,x1,hb⟩:=take_run o (c:=7) (Int.ofNat_lt.mpr (Nat.succ_pos _))
 cases e1:(x==1)with
 |true=>exact leaf_l hk.kd hb (by rw[e1];rfl)
 |false=>exact leaf_v o h9 hk hb e1 e4
theorem leaf_run(o:WTk w)(h9:w.at_+1<=100000)(hk:Kd k):Lf w k:=by
 cases hk with
 |n=>
  obtain⟨x,x0,x1,hb⟩:=take_run o (c:=7) (Int.ofNat_lt.mpr (Nat.succ_pos _))
  exact⟨_,1,le12,leaf_con (k:=14) (v:=.none) (.null (.inr (.inr rfl))),λm=>oCW f_law_leaf (.s 1 (.int x) (some (w.on 1)) .e) (λez=>ai (hb (m+1)) ez)⟩
 |c=>
  obtain⟨x,x0,x1,hb⟩:=take_run o (c:=7) (Int.ofNat_lt.mpr (Nat.succ_pos _))
  exact leaf_l rfl hb (Bool.or_true _)
 |o=>exact leaf_k o h9 .o rfl
 |s=>exact leaf_k o h9 .s rfl
 |r R=>exact leaf_k o h9 (.r R) (beq_eq_false_iff_ne.mpr R.n41)
end
noncomputable def gR:Ss:=f_law_grow.body.tl.tl
noncomputable def gB:Ss:=gR.tl.tl.tl.tl.hd.bod
noncomputable def RB:Nat->Nat
 |0=>1
 |d+1=>3*RB d+1
noncomputable def TB:Nat->Nat
 |0=>5
 |d+1=>3*TB d+6
noncomputable def nz(rs:List Rec):List Int:=(rs.map Rec.fm).filter λf=>f !=0
theorem nz_app(a b:List Rec):nz (a++b)=nz a++nz b:=by unfold nz;rw[List.map_append,List.filter_append]
theorem nz_one(r:Rec):nz [r]=fl1 r.fm:=by
 by_cases h:r.fm=0
 ·simp[nz,fl1,h]
 ·simp[nz,fl1,h]
structure Aft(w w':W)(t:Nat):Prop where
 gv:w'.given=w.given
 fin:w'.fin=false
 a0:w.at_<=w'.at_
 a1:w'.at_<=w.at_+t
theorem Aft.ok{w w':W}{t:Nat}(a:Aft w w' t)(o:WdOk w)(h:w.at_+t<=100000)(hl:w'.rows.length<=1000):WdOk w':=⟨⟨a.gv▸o.tk.gv,Int.le_trans o.tk.a0 a.a0,Int.le_trans a.a1 h⟩,a.fin,hl⟩
theorem Aft.trans{w w' w'':W}{t s:Nat}(a:Aft w w' t)(b:Aft w' w'' s):Aft w w'' (t+s):=⟨b.gv.trans a.gv,b.fin,Int.le_trans a.a0 b.a0,Int.le_trans b.a1 (by have:=a.a1;lia)⟩
theorem Aft.le{w w':W}{t s:Nat}(a:Aft w w' t)(h:t<=s):Aft w w' s:=⟨a.gv,a.fin,a.a0,Int.le_trans a.a1 (Int.add_le_add_left (Int.ofNat_le.mpr h) _)⟩
inductive Gw(d:Nat)(w:W)(pre:List Rec)(k deep zone:Int):Prop
 |mk (w':W) (P:List Rec) (r:Rec) (e:∀n,run fns (n+d+4) 43 [.w,.int k,.int deep,.int zone] (some w)=some (.int ((pre++P).length:Int),some w')) (a:Aft w w' (TB d))
  (rows:w'.rows=(pre++P++[r]).map Rec.row) (v:VL pre (P++[r])) (ek:r.k=k) (s:Sem r) (eh:r.h<=d) (ph:∀q∈P,q.h<=d) (z:nz (P++[r])=r.l) (l:P.length+1<=RB d):Gw d w pre k deep zone
noncomputable def Grow(d:Nat):Prop:=∀(deep zone k:Int)(w:W)(pre:List Rec),deep=4-(d:Int)->WdOk w->w.at_+TB d<=90000->w.rows=pre.map Rec.row->pre.length+RB d<=900->Kd k->0<=zone->zone<=2->Gw d w pre k deep zone
noncomputable abbrev gE(deep zone:Int)(ix:List V)(s:Sl)(t:Slot):Env':=[.val .w,s 1,.val (.int deep),.val (.int zone),s 4,s 5,s 6,s 7,.own ix,t]
inductive Gs(d:Nat)(w:W)(pre:List Rec)(js:List Int)(deep zone:Int)(s:Sl)(ix:List V)(s9:Slot):Prop
 |mk (w':W) (P kids:List Rec) (jx:List Nat) (t:Slot) (e:∀n,loopL (λv ρ=>evSs (run fns (n+d+4)) (List.set ρ 9 (.val v)) gB) (js.map V.int) (gE deep zone ix s s9) (some w)=some ((.next,gE deep zone (ix++iV jx) s t),some w')) (a:Aft w w' (js.length*TB d))
  (rows:w'.rows=(pre++P).map Rec.row) (v:VL pre P) (f:F2 (λj q=>(pre++P)[j]?=some q) jx kids) (ek:kids.map Rec.k=js) (sm:∀q∈kids,Sem q/\q.h<=d) (ph:∀q∈P,q.h<=d) (z:nz P=(kids.map Rec.l).flatten) (l:P.length<=js.length*RB d):Gs d w pre js deep zone s ix s9
section
variable{d:Nat}{deep zone:Int}{s:Sl}
theorem gs_cons{w w1:W}{pre P1:List Rec}{r1:Rec}{j:Int}{js:List Int}{ix:List V}{s9:Slot}(hx:ix.length<1000)(e1:∀n,run fns (n+d+4) 43 [.w,.int j,.int (deep+1),.int zone] (some w)=some (.int ((pre++P1).length:Int),some w1))(a1:Aft w w1 (TB d))
  (v1:VL pre (P1++[r1]))(k1:r1.k=j)(sm1:Sem r1)(h1:r1.h<=d)(ph1:∀q∈P1,q.h<=d)(z1:nz (P1++[r1])=r1.l)(l1:P1.length+1<=RB d)
  (g:Gs d w1 (pre++(P1++[r1])) js deep zone s (ix++[.int ((pre++P1).length:Int)]) (.val (.int j))):Gs d w pre (j::js) deep zone s ix s9:=by
 obtain⟨w2,P2,kids,jx,t,e2,a2,rr2,v2,f2,k2,sm2,ph2,z2,l2⟩:=g
 have hz:ix.length<lim:=Nat.lt_trans hx (Nat.le_of_ble_eq_true rfl)
 have hP:pre++(P1++[r1])++P2=pre++(P1++[r1]++P2):=List.append_assoc ..
 have hl:(j::js).length=js.length+1:=rfl
 refine⟨w2,P1++[r1]++P2,r1::kids,(pre++P1).length::jx,t,λn=>?_,(a1.trans a2).le (by rw[hl,Nat.succ_mul];exact Nat.le_of_eq (Nat.add_comm _ _)),rr2.trans (congrArg _ hP),v1.app v2,.cons ?_ (hP▸f2),by rw[List.map_cons,k1,k2],?_,?_,by rw[nz_app,z1,z2];rfl,by rw[hl,Nat.succ_mul,List.length_append,List.length_append];exact Nat.add_comm ..▸Nat.add_le_add l2 l1⟩
 ·have hs:evSs (run fns (n+d+4)) (List.set (gE deep zone ix s s9) 9 (.val (.int j))) gB (some w)=some ((.next,gE deep zone (ix++[.int ((pre++P1).length:Int)]) s (.val (.int j))),some w1):=
   oSW (.s 6 (.int ((pre++P1).length:Int)) (some w1)<|.b 0 true .e) (λez=>ai (e1 n)<|ai (dt hz) ez)
  rw[List.map_cons,loop_cons,M.bind_at hs]
  refine(e2 n).trans ?_
  rw[List.append_assoc];rfl
 ·rw[←hP,List.append_assoc pre (P1++[r1]) P2,←List.append_assoc pre,←List.append_assoc pre,List.getElem?_append_left (by rw[List.length_append (as:=pre++P1)];exact Nat.lt_succ_self _),List.getElem?_append_right (Nat.le_refl _),Nat.sub_self]
  rfl
 ·exact List.forall_mem_cons.mpr ⟨⟨sm1,h1⟩,sm2⟩
 ·intro q hq
  rcases List.mem_append.mp hq with hq|hq
  ·rcases List.mem_append.mp hq with hq|hq
   ·exact ph1 q hq
   ·rw[List.mem_singleton.mp hq];exact h1
  ·exact ph2 q hq
theorem grow_loop(IH:Grow d)(hd:deep+1=4-(d:Int))(hz0:0<=zone)(hz2:zone<=2)(js:List Int):(∀j∈js,Kd j)->∀(w:W)(pre:List Rec)(ix:List V)(s9:Slot),WdOk w->w.at_+((js.length*TB d:Nat):Int)<=90000->w.rows=pre.map Rec.row->pre.length+js.length*RB d<=900->ix.length+js.length<=1000->Gs d w pre js deep zone s ix s9:=by
 induction js with
 |nil=>exactλ_ w pre ix s9 o _ hr _ _=>⟨w,[],[],[],s9,λn=>(congrArg (λx=>some ((Fl.next,gE deep zone x s s9),some w)) (List.append_nil ix).symm),⟨rfl,o.fin,Int.le_refl _,by rw[List.length_nil,Nat.zero_mul];exact Int.le_of_eq (Int.add_zero _).symm⟩,by rw[List.append_nil];exact hr,.nil,.nil,rfl,(λq hq=>nomatch hq),(λq hq=>nomatch hq),rfl,Nat.zero_le _⟩
 |cons j js ih=>
  intro hk w pre ix s9 o ha hr hl hx
  simp only[List.length_cons,Nat.succ_mul]at ha hl hx
  obtain⟨w1,P1,r1,e1,a1,rr1,v1,k1,sm1,h1,ph1,z1,l1⟩:=IH (deep+1) zone j w pre hd o (by lia) hr (by lia) (hk j (.head _)) hz0 hz2
  rw[List.append_assoc]at rr1
  have hl1:(pre++(P1++[r1])).length<=pre.length+RB d:=by rw[List.length_append,List.length_append];exact Nat.add_le_add_left l1 _
  have ax:=a1.a1
  exact gs_cons (by lia) e1 a1 v1 k1 sm1 h1 ph1 z1 l1 (ih (λi hi=>hk i (.tail _ hi)) w1 _ _ _ (a1.ok o (by lia) (by rw[rr1,List.length_map];lia)) (by lia) rr1 (by lia) (by rw[List.length_append,List.length_singleton];lia))
end
noncomputable abbrev hE(k deep zone what:Int)(a b c:Slot):Env':=[.val .w,.val (.int k),.val (.int deep),.val (.int zone),.val (.int what),a,b,c,.none,.none]
section
variable{Φ:Nat->List V->M V}{ρ:Env'}{w w':W}{σ:Option W}{k what zone deep lo hi:Int}
theorem onW_at{α:Type}{f:W->Option (α×W)}{a:α}(h:f w=some (a,w')):M.onW .w f (some w)=some (a,some w'):=by
 show(match f w with|some p=>some (p.1,some p.2)|Option.none=>Option.none)=_
 rw[h]
theorem ev_wln{i:Nat}(h:getV ρ i=some .w)(h2:w.fin=false)(h3:w.rows.length<=lim):evE Φ ρ (.wlen i) (some w)=some (.int w.rows.length,some w):=by
 show((M.lift (getV ρ i)).bind _) (some w)=_
 rw[h];exact onW_at (if_pos ⟨h2,h3⟩)
theorem ev_wapp{i:Nat}{e:E}{v:V}(h:getV ρ i=some .w)(h2:w.fin=false)(he:evE Φ ρ e (some w)=some (v,some w'))(hf:w'.fin=false)(hl:w'.rows.length<lim):evS Φ ρ (.wapp i e) (some w)=some ((.next,ρ),some {w' with rows:=w'.rows++[v]}):=by
 show((M.lift (getV ρ i)).bind _) (some w)=_
 rw[h]
 exact(M.bind_at (onW_at (a:=()) (if_pos h2))).trans ((M.bind_at he).trans (M.bind_at (onW_at (a:=()) (if_pos ⟨hf,hl⟩))))
theorem ev_if{t:E}{a b:Ss}{c:Bool}(h:evE Φ ρ t σ=some (.bool c,σ)):evS Φ ρ (.ifS t a b) σ=(if c=true then evSs Φ ρ a else evSs Φ ρ b) σ:=M.bind_at h
theorem bos{e1 e2:E}{r:Es}{b1 b2:Bool}(h1:evE Φ ρ e1 σ=some (.bool b1,σ))(h2:evE Φ ρ (.boo false (.cons e2 r)) σ=some (.bool b2,σ)):evE Φ ρ (.boo false (.cons e1 (.cons e2 r))) σ=some (.bool (b1||b2),σ):=by
 refine(M.bind_at h1).trans ?_
 cases b1
 ·exact h2
 ·rfl
theorem bo1{e:E}:evE Φ ρ (.boo false (.cons e .nil))=evE Φ ρ e:=rfl
noncomputable def isL(k deep what:Int)(w:W):Bool:=k==14||(deep==4||(w.left==0||(what==0&&decide (0<deep))))
theorem grow_c:evE Φ (hE k deep zone what .none .none .none) f_law_grow.body.tl.hd.ex (some w)=some (.bool (isL k deep what w),some w):=
 bos (e1:=.cmp .Eq (.loc 1) (.glob (Str.ofString "NULLK") (.int 14))) rfl (bos (e1:=.cmp .Eq (.loc 2) (.int 4)) rfl (bos (e1:=.cmp .Eq (.wg 0 .left) (.int 0)) rfl ((congrFun bo1 _).trans (congrFun (bo2 (e1:=.cmp .Eq (.loc 4) (.int 0)) (e2:=.cmp .Gt (.loc 2) (.int 0)) rfl rfl rfl) _))))
inductive S3(k deep zone what:Int)(w:W):Prop
 |mk (z:Int) (i:Nat) (z0:0<=z) (z2:z<=2) (hi:i<=1) (e:∀m,evS (run fns (m+1)) (hE k deep zone what .none .none .none) gR.tl.hd (some w)=some ((.next,hE k deep z what .none .none .none),some (w.on i))):S3 k deep zone what w
theorem grow_s3(o:WTk w)(hz0:0<=zone)(hz2:zone<=2):S3 k deep zone what w:=by
 by_cases h6:6<what
 ·obtain⟨x,x0,x1,hb⟩:=take_run o (c:=3) (Int.ofNat_lt.mpr (Nat.succ_pos _))
  exact⟨x,1,x0,Int.le_of_lt_add_one x1,Nat.le_refl _,λm=>es1 (oSW (.b 1 true<|.s 3 (.int x) (some (w.on 1)) .e) (λez=>ai (sd h6)<|ai (hb m) ez))⟩
 ·exact⟨zone,0,hz0,hz2,Nat.zero_le _,λm=>es1 (oSW (.b 1 false .e) (λez=>ai (sn h6) ez) (by rw[W.on_0];kernel_rfl))⟩
inductive S4(k deep zone what:Int)(w:W):Prop
 |mk (code:Int) (sg:V) (js:List Int) (i:Nat) (hi:i<=2) (l:Lg k code sg js) (e:∀m,evS (run fns (m+2)) (hE k deep zone what .none .none .none) gR.tl.tl.hd (some w)=some ((.next,hE k deep zone what (.val (.int code)) (.val sg) (.val (.tup (js.map V.int)))),some (w.on i))):S4 k deep zone what w
theorem s4_num(h2:¬what<2)(h1:(k==1)=false)(hc:cmpV .In (.int k) (.tup [.int 13,.int 12,.int 41])=some false)(D:Dr 40 [.w,.int what,.int k] w k):S4 k deep zone what w:=by
 obtain⟨code,sg,js,i,hi,l,e⟩:=D
 exact⟨code,sg,js,i,hi,l,λm=>es1 (oSW (.b 1 false<|.b 3 false<|.b 4 false<|.s 5 (.tup [.int code,sg,.tup (js.map V.int)]) (some (w.on i)) .e) (λez=>ai (sn h2)<|ai (sm h1)<|ai hc<|ai (e m) ez))⟩
theorem s4_word(h2:¬what<2)(h1:(k==1)=false)(hc:cmpV .In (.int k) (.tup [.int 13,.int 12,.int 41])=some true)(D:Dr 42 [.w,.int what,.int k] w k):S4 k deep zone what w:=by
 obtain⟨code,sg,js,i,hi,l,e⟩:=D
 exact⟨code,sg,js,i,hi,l,λm=>es1 (oSW (.b 1 false<|.b 3 false<|.b 4 true<|.s 5 (.tup [.int code,sg,.tup (js.map V.int)]) (some (w.on i)) .e) (λez=>ai (sn h2)<|ai (sm h1)<|ai hc<|ai (e m) ez))⟩
theorem s4_truth(h2:¬what<2)(D:Dr 41 [.w,.int what] w 1):S4 1 deep zone what w:=by
 obtain⟨code,sg,js,i,hi,l,e⟩:=D
 exact⟨code,sg,js,i,hi,l,λm=>es1 (oSW (.b 1 false<|.s 8 (.tup [.int code,sg,.tup (js.map V.int)]) (some (w.on i)) .e) (λez=>ai (sn h2)<|ai (e m) ez))⟩
theorem Rg.cin(R:Rg k lo hi):cmpV .In (.int k) (.tup [.int 13,.int 12,.int 41])=some false:=by cases R<;>rfl
theorem grow_s4(o:WTk w)(h9:w.at_+1<=100000)(hk:Kd k)(h14:k≠14)(w8:what<=8):S4 k deep zone what w:=by
 by_cases h2:what<2
 ·exact⟨17,.str (Str.ofString ""),[1,k,k],0,Nat.zero_le _,lg_gen (gen_cond h14 _) (Nat.le_refl _) (kc kd1 (kc hk (kc hk kn))),λm=>es1 (oSW (.b 1 true .e) (λez=>ai (sd h2) ez) (by rw[W.on_0];kernel_rfl))⟩
 ·cases hk with
  |n=>exact absurd rfl h14
  |o=>exact s4_word h2 rfl rfl (words_run o (.inr (.inl rfl)))
  |s=>exact s4_word h2 rfl rfl (words_run o (.inl rfl))
  |c=>exact s4_word h2 rfl rfl (words_run o (.inr (.inr rfl)))
  |r R=>
   have ci:=R.cin
   cases R with
   |bool=>exact s4_truth h2 (truth_run o (Int.not_lt.mp h2) w8)
   |i4=>exact s4_num h2 rfl ci (num_run o h9 num7)
   |u4=>exact s4_num h2 rfl ci (num_run o h9 num8)
   |i8=>exact s4_num h2 rfl ci (num_run o h9 num9)
   |u8=>exact s4_num h2 rfl ci (num_run o h9 num10)
   |char=>exact s4_num h2 rfl ci (num_conv o .char nofun rfl)
   |i1=>exact s4_num h2 rfl ci (num_conv o .i1 nofun rfl)
   |u1=>exact s4_num h2 rfl ci (num_conv o .u1 nofun rfl)
   |i2=>exact s4_num h2 rfl ci (num_conv o .i2 nofun rfl)
   |u2=>exact s4_num h2 rfl ci (num_conv o .u2 nofun rfl)
   |e=>exact s4_num h2 rfl ci (num_conv o .e nofun rfl)
end
noncomputable abbrev jE(k deep z x code:Int)(sg:V)(js:List Int)(jx:List Nat)(t:Slot):Env':=[.val .w,.val (.int k),.val (.int deep),.val (.int z),.val (.int x),.val (.int code),.val sg,.val (.tup (js.map V.int)),.val (.lst (iV jx)),t]
section
variable{n d:Nat}{k what zone deep x:Int}{w w1:W}{pre:List Rec}
theorem RB_pos:∀d,1<=RB d
 |0=>Nat.le_refl _
 |d+1=>Nat.succ_pos _
theorem TB_pos:∀d,5<=TB d
 |0=>Nat.le_refl _
 |d+1=>Nat.le_trans (Nat.le_succ 5) (Nat.le_add_left 6 _)
theorem rows_sub{r:V}{n:Nat}(h:w.rows.length=n):binV .Sub (.int ((w.rows++[r]).length:Int)) (.int 1)=some (.int n):=by
 rw[List.length_append,h]
 exact congrArg (λi=>some (V.int i)) (Int.add_sub_cancel (n:Int) 1)
theorem grow_leaf(o:WdOk w)(h9:w.at_+5<=90000)(hr:w.rows=pre.map Rec.row)(hl:pre.length<=900)(hk:Kd k)(hb:∀n,run fns (n+1) 36 [.w,.int 9] (some w)=some (.int x,some (w.on 1)))(hc:isL k deep x (w.on 1)=true):Gw d w pre k deep zone:=by
 have o1:=o.on (j:=1) (by lia)
 obtain⟨row,i,hi,⟨r,rs,rst,rk,rh,rr,rx⟩,he⟩:=leaf_run o1.tk (by show w.at_+1+1<=100000;lia) hk
 have hL:w.rows.length=pre.length:=by rw[hr,List.length_map]
 have l1:w.rows.length<lim:=Nat.lt_of_le_of_lt (hL▸hl) (Nat.le_of_ble_eq_true rfl)
 have l2:(w.rows++[row]).length<=lim:=by rw[List.length_append];exact l1
 have hs:∀n,evS (run fns (n+d+3)) (hE k deep zone x .none .none .none) f_law_grow.body.tl.hd (some (w.on 1))=some ((.ret (.int pre.length),hE k deep zone x .none .none .none),some {(w.on 1).on i with rows:=w.rows++[row]}):=λn=>by
  refine(ev_if grow_c).trans ?_
  rw[hc]
  exact oSW (.z 0 .next (hE k deep zone x .none .none .none) (some {(w.on 1).on i with rows:=w.rows++[row]})<|.s 0 (.int (w.rows++[row]).length) (some {(w.on 1).on i with rows:=w.rows++[row]})<|.v 0 (.int pre.length) .e) (λez=>ai (ev_wapp (Φ:=run fns (n+d+3)) (ρ:=hE k deep zone x .none .none .none) (i:=0) (e:=.call 39 (.cons (.loc 0) (.cons (.loc 1) .nil))) rfl o1.fin (he (n+d)) o1.fin l1)<|ai (ev_wln (Φ:=run fns (n+d+3)) (ρ:=hE k deep zone x .none .none .none) (i:=0) (w:={(w.on 1).on i with rows:=w.rows++[row]}) rfl o1.fin l2)<|ai (rows_sub (r:=row) hL) ez)
 refine⟨{(w.on 1).on i with rows:=w.rows++[row]},[],r,λn=>?_,⟨rfl,o1.fin,?_,?_⟩,?_,?_,rk,rs,rh▸Nat.zero_le _,(λq hq=>nomatch hq),?_,RB_pos d⟩
 ·rw[List.append_nil]
  exact oCW f_law_grow (.s 1 (.int x) (some (w.on 1))<|.k 0 (.ret (.int pre.length)) (hE k deep zone x .none .none .none) (some {(w.on 1).on i with rows:=w.rows++[row]}) .e) (λez=>ai (hb (n+d+2))<|ai (hs n) ez)
 ·show w.at_<=w.at_+1+i;lia
 ·have:=TB_pos d;show w.at_+1+i<=_;lia
 ·show w.rows++[row]=_
  rw[hr,←rr,List.append_nil,List.map_append];rfl
 ·exact .cons rs (rx▸.nil) rst ⟨λq hq=>(nomatch hq),Nat.zero_le _⟩ .nil
 ·rw[List.nil_append,nz_one,rst.l];rfl
theorem zone_ck(z0:0<=zone)(z2:zone<=2):((if(zone==2)=true then 1 else 0:Int)=0/\((if(zone==1)=true then 1 else 0:Int)=0\/(if(zone==1)=true then 1 else 0:Int)=1))\/((if(zone==2)=true then 1 else 0:Int)=1/\(if(zone==1)=true then 1 else 0:Int)=0):=by
 have h:zone=0\/zone=1\/zone=2:=by lia
 rcases h with rfl|rfl|rfl<;>decide
noncomputable def W.less(w:W):W:={w with left:=w.left-1}
theorem WdOk.less(o:WdOk w):WdOk w.less:=⟨⟨o.tk.gv,o.tk.a0,o.tk.a1⟩,o.fin,o.rl⟩
theorem grow_op{z:Int}{code:Int}{sg:V}{js:List Int}{i3 i4:Nat}(o4:WdOk (((w.on 1).less.on i3).on i4))(hi3:i3<=1)(hi4:i4<=2)(ha:w.at_+TB (d+1)<=90000)(hl:pre.length+RB (d+1)<=900)(hd:d+1<=4)(z0:0<=z)(z2:z<=2)(L:Lg k code sg js)
  (hb:∀n,run fns (n+1) 36 [.w,.int 9] (some w)=some (.int x,some (w.on 1)))(hc:isL k deep x (w.on 1)=false)
  (e3:∀m,evS (run fns (m+1)) (hE k deep zone x .none .none .none) gR.tl.hd (some (w.on 1).less)=some ((.next,hE k deep z x .none .none .none),some ((w.on 1).less.on i3)))
  (e4:∀m,evS (run fns (m+2)) (hE k deep z x .none .none .none) gR.tl.tl.hd (some ((w.on 1).less.on i3))=some ((.next,hE k deep z x (.val (.int code)) (.val sg) (.val (.tup (js.map V.int)))),some (((w.on 1).less.on i3).on i4)))
  (g:Gs d (((w.on 1).less.on i3).on i4) pre js deep z (slo [.none,.val (.int k),.none,.none,.val (.int x),.val (.int code),.val sg,.val (.tup (js.map V.int))]) [] .none):Gw (d+1) w pre k deep zone:=by
 obtain⟨w5,P,kids,jx,t,e5,a5,r5,v5,F5,k5,sm5,ph5,zz5,l5⟩:=g
 have m1:js.length*TB d<=3*TB d:=Nat.mul_le_mul_right _ L.len
 have m2:js.length*RB d<=3*RB d:=Nat.mul_le_mul_right _ L.len
 have hTB:TB (d+1)=3*TB d+6:=rfl
 have hRB:RB (d+1)=3*RB d+1:=rfl
 obtain⟨r,rs,rst,rk,rh,rr,rx⟩:=L.rec_ kids d (if(z==1)=true then 1 else 0) (if(z==2)=true then 1 else 0) jx k5 sm5 (by lia) (zone_ck z0 z2)
 have hkl:kids.length=js.length:=by rw[←k5,List.length_map]
 have hjx:jx.length<=3:=by rw[F5.len,hkl];exact L.len
 have hL:w5.rows.length=(pre++P).length:=by rw[r5,List.length_map]
 have l1:w5.rows.length<lim:=Nat.lt_of_le_of_lt (m:=900) (by rw[hL,List.length_append];lia) (Nat.le_of_ble_eq_true rfl)
 have l2:(w5.rows++[r.row]).length<=lim:=by rw[List.length_append];exact l1
 have lj:js.length<=1000:=Nat.le_trans L.len (Nat.le_of_ble_eq_true rfl)
 have hT:bifV .tuple [.lst (iV jx)]=some (.tup (iV jx)):=tupL (Nat.le_of_lt (lim_lt (Nat.le_trans hjx (Nat.le_of_ble_eq_true rfl))))
 have hI:itemsV (.tup (js.map V.int))=some (js.map V.int):=it_tup (Nat.le_of_lt (lim_lt lj))
 have hx:∀n,evE (run fns (n+(d+1)+3)) (jE k deep z x code sg js jx t) gR.tl.tl.tl.tl.tl.tl.hd.ex=M.pure r.row:=λn=>by
  rw[rr]
  exact oE (.y 0 (.int (if(z==1)=true then 1 else 0))<|.y 0 (.int (if(z==2)=true then 1 else 0))<|.v 1 (.tup (iV jx)) .e) (λ_ ez=>ai (it_i (Φ:=run fns (n+(d+1)+3)) (ρ:=(jE k deep z x code sg js jx t)) (e:=.cmp .Eq (.loc 3) (.int 1)) (r:=z==1) (u:=1) (v:=0) rfl)<|
   ai (it_i (Φ:=run fns (n+(d+1)+3)) (ρ:=(jE k deep z x code sg js jx t)) (e:=.cmp .Eq (.loc 3) (.int 2)) (r:=z==2) (u:=1) (v:=0) rfl)<|ai hT ez)
 have a0:w.at_+1+i3+i4<=w5.at_:=a5.a0
 have a1:w5.at_<=w.at_+1+i3+i4+(js.length*TB d:Nat):=a5.a1
 refine⟨{w5 with rows:=w5.rows++[r.row]},P,r,λn=>?_,⟨a5.gv,a5.fin,?_,?_⟩,?_,?_,rk,rs,Nat.le_of_eq rh,λq hq=>Nat.le_succ_of_le (ph5 q hq),?_,?_⟩
 ·exact oCW f_law_grow (.s 1 (.int x) (some (w.on 1))<|.k 0 .next (hE k deep zone x .none .none .none) (some (w.on 1))<|.k 0 .next (hE k deep z x .none .none .none) (some ((w.on 1).less.on i3))<|.k 0 .next (hE k deep z x (.val (.int code)) (.val sg) (.val (.tup (js.map V.int)))) (some (((w.on 1).less.on i3).on i4))<|.l 1 (js.map V.int)<|
   .z 0 .next (gE deep z ([]++iV jx) (slo [.none,.val (.int k),.none,.none,.val (.int x),.val (.int code),.val sg,.val (.tup (js.map V.int))]) t) (some w5)<|
   .z 1 .next (jE k deep z x code sg js jx t) (some {w5 with rows:=w5.rows++[r.row]})<|.s 0 (.int (w5.rows++[r.row]).length) (some {w5 with rows:=w5.rows++[r.row]})<|.v 0 (.int (pre++P).length) .e) (λez=>ai (hb (n+(d+1)+2))<|ai (((ev_if grow_c).trans (by rw[hc];rfl):evS (run fns (n+(d+1)+3)) (hE k deep zone x .none .none .none) f_law_grow.body.tl.hd (some (w.on 1))=some ((.next,hE k deep zone x .none .none .none),some (w.on 1))))<|ai (e3 (n+(d+1)+2))<|ai (e4 (n+(d+1)+1))<|ai hI<|ai (e5 n)<|
    ai (ev_wapp (i:=0) rfl a5.fin (congrFun (hx n) (some w5)) a5.fin l1)<|ai (ev_wln (Φ:=run fns (n+(d+1)+3)) (i:=0) (ρ:=(jE k deep z x code sg js jx t)) (w:={w5 with rows:=w5.rows++[r.row]}) rfl a5.fin l2)<|ai (rows_sub (r:=r.row) hL) ez)
 ·show w.at_<=w5.at_;lia
 ·show w5.at_<=_;lia
 ·show w5.rows++[r.row]=_
  rw[r5];exact(List.map_append (l₂:=[r])).symm
 ·exact v5.app (.cons rs (rx▸F5) rst ⟨λq hq=>⟨(sm5 q hq).1,rh▸Nat.lt_succ_of_le (sm5 q hq).2⟩,hkl▸L.len⟩ .nil)
 ·rw[nz_app,nz_one,zz5,rst.l]
 ·lia
theorem grow_all:∀d,d<=4->Grow d:=by
 intro d
 induction d with
 |zero=>
  intro _ deep zone k w pre hdeep o ha hr hl hk hz0 hz2
  obtain⟨x,x0,x1,hb⟩:=take_run o.tk (c:=9) (Int.ofNat_lt.mpr (Nat.succ_pos _))
  have e:deep=4:=hdeep
  exact grow_leaf o ha hr (Nat.le_trans (Nat.le_succ _) hl) hk hb (by rw[e];exact Bool.or_true _)
 |succ d ih=>
  intro hd deep zone k w pre hdeep o ha hr hl hk hz0 hz2
  obtain⟨x,x0,x1,hb⟩:=take_run o.tk (c:=9) (Int.ofNat_lt.mpr (Nat.succ_pos _))
  have hT:=TB_pos d
  have hTB:TB (d+1)=3*TB d+6:=rfl
  have hRB:RB (d+1)=3*RB d+1:=rfl
  cases hc:isL k deep x (w.on 1)with
  |true=>exact grow_leaf o (by lia) hr (Nat.le_of_add_right_le hl) hk hb hc
  |false=>
   have h14:k≠14:=by rintro rfl;exact nomatch hc
   have o2:WdOk (w.on 1).less:=(o.on (j:=1) (by lia)).less
   obtain⟨z,i3,z0,z2,hi3,e3⟩:=grow_s3 (k:=k) (deep:=deep) (what:=x) o2.tk hz0 hz2
   have o3:=o2.on (j:=i3) (by show w.at_+1+i3<=100000;lia)
   obtain⟨code,sg,js,i4,hi4,L,e4⟩:=grow_s4 (deep:=deep) (zone:=z) o3.tk (by show w.at_+1+i3+1<=100000;lia) hk h14 (Int.le_of_lt_add_one x1)
   have o4:=o3.on (j:=i4) (by show w.at_+1+i3+i4<=100000;lia)
   have m1:js.length*TB d<=3*TB d:=Nat.mul_le_mul_right _ L.len
   have m2:js.length*RB d<=3*RB d:=Nat.mul_le_mul_right _ L.len
   exact grow_op o4 hi3 hi4 ha hl hd z0 z2 L hb hc e3 e4 (grow_loop (ih (Nat.le_of_succ_le hd)) (by lia) z0 z2 js L.kd _ _ _ _ o4 (by show w.at_+1+i3+i4+_<=(90000:Int);lia) hr (by lia) (by have:=L.len;rw[List.length_nil];lia))
end
section
variable{Φ:Nat->List V->M V}{ρ:Env'}{w:W}
theorem oR{b:Ss}{r:V}{σ:Option W}(sc:Sc){P:Prop}(p:r=r->P)(e:P=wSs Φ b ρ σ sc (λv _ _ _=>v=r) (λ_ _ _=>False):=by kernel_rfl):∃ρ' σ',evSs Φ ρ b σ=some ((.ret r,ρ'),σ'):=by
 obtain⟨⟨f,x⟩,q,s,h1,h2⟩:=wSs_ok b ρ _ _ _ _ (e▸p rfl)
 cases f with
 |next=>exact h2.elim
 |ret v=>exact⟨x,q,h1.trans (congrArg (λv=>some ((Fl.ret v,x),q)) h2)⟩
theorem ev_newW{i:Nat}{g a l:E}{gs:List V}{n k:Int}(hg:evE Φ ρ g=M.pure (.lst gs))(ha:evE Φ ρ a=M.pure (.int n))(hl:evE Φ ρ l=M.pure (.int k)):
  evS Φ ρ (.newW i g a l) none=some ((.next,ρ.set i (.val .w)),some {given:=gs,at_:=n,left:=k,rows:=[],fin:=false}):=by
 show((evE Φ ρ g).bind _) none=_
 rw[hg,M.pure_bind,ha,M.pure_bind,hl];rfl
theorem ev_frzR{i j:Nat}{rows:List V}(h:getV ρ i=some .w)(hr:w.rows=rows):evS Φ ρ (.frzR j i) (some w)=some ((.next,ρ.set j (.val (.lst rows))),some {w with fin:=true}):=by
 subst hr
 show((M.lift (getV ρ i)).bind _) (some w)=_
 rw[h];rfl
theorem comp_nz{cond:V->M Bool}{elt:V->M V}(hc:∀i:Int,cond (.int i)=M.pure (i !=0))(he:∀v,elt v=M.pure v)(rs:List Rec):compL cond elt (rs.map λq=>.int q.fm)=M.pure ((nz rs).map V.int):=by
 induction rs with
 |nil=>rfl
 |cons q rs ih=>
  have h:nz (q::rs)=if(q.fm !=0)=true then q.fm::nz rs else nz rs:=List.filter_cons
  show(cond (.int q.fm)).bind _=_
  rw[hc,M.pure_bind,h]
  cases q.fm !=0 with
  |false=>exact ih
  |true=>
   show(elt _).bind _=_
   rw[he,M.pure_bind,ih];rfl
theorem pv_compS{j:Nat}{elt iter:E}{cs:Es}{u:V}{xs ys:List V}{σ σ':Option W}(hi:evE Φ ρ iter=M.pure u)(hx:itemsV u=some xs)(hy:ys.length<=lim)
  (he:compL (λv=>(evC Φ (ρ.set j (.val v)) cs).bind λc=>(M.lift c.truth).bind M.pure) (λv=>evE Φ (ρ.set j (.val v)) elt) xs σ=some (ys,σ')):evE Φ ρ (.comp j elt iter cs) σ=some (.lst ys,σ'):=by
 show((evE Φ ρ iter).bind λx=>(M.lift (itemsV x)).bind λxs=>(compL _ _ xs).bind λys=>M.lift (mkLst ys)) σ=_
 rw[hi,M.pure_bind,hx,M.lift_s,M.pure_bind]
 exact(M.bind_at he).trans (M.lift_e (if_pos hy))
inductive Pk(cond:V->M Bool)(elt:V->M V)(w:W)(xs:List V):Prop
 |mk (ps:List Int) (l:ps.length=xs.length) (b:∀x∈ps,0<=x/\x<=5) (e:compL cond elt xs (some w)=some (ps.map V.int,some (w.on xs.length))):Pk cond elt w xs
theorem picks_run{cond:V->M Bool}{elt:V->M V}(hc:∀v,cond v=M.pure true)(he:∀v,elt v=run fns 200 36 [.w,.int 6])(xs:List V):∀(w:W),WTk w->w.at_+xs.length<=100000->Pk cond elt w xs:=by
 induction xs with
 |nil=>exactλw _ _=>⟨[],rfl,(λx hx=>nomatch hx),congrArg (λw=>some (([]:List V),some w)) (W.on_0 w).symm⟩
 |cons x xs ih=>
  intro w o h
  rw[List.length_cons]at h
  obtain⟨p,p0,p1,hp⟩:=take_run o (c:=6) (Int.ofNat_lt.mpr (Nat.succ_pos _))
  obtain⟨ps,l,b,e⟩:=ih (w.on 1) (o.on (by lia)) (by show w.at_+1+(xs.length:Int)<=100000;lia)
  rw[W.on_on]at e
  refine⟨p::ps,congrArg Nat.succ l,List.forall_mem_cons.mpr ⟨⟨p0,Int.le_of_lt_add_one p1⟩,b⟩,?_⟩
  show(cond x).bind _ (some w)=_
  rw[hc]
  show(elt x).bind _ (some w)=_
  rw[he]
  refine(M.bind_at (hp 199)).trans ((M.bind_at e).trans ?_)
  rw[Nat.add_comm];rfl
end
noncomputable abbrev lE(a:V):Env':=.val a::List.replicate 14 .none
section
variable{ns js:List Int}
theorem script_cut(h:ns.length<=63):slcHV (.lst (ns.map V.int)) (.int 40)=some (.lst ((ns.take 40).map V.int)):=by
 refine(if_pos (⟨Int.le_refl _,by decide,Nat.le_of_lt (lim_lt (Nat.le_trans h (Nat.le_of_ble_eq_true rfl)))⟩:0<=(0:Int)/\0<=(40:Int)/\(ns.map V.int).length<=lim)).trans ?_
 rw[List.map_take];rfl
theorem len_js(hl:js.length<=40):bifV .len [.lst (js.map V.int)]=some (.int js.length):=List.length_map V.int▸lenL (r:=js.map V.int) (Nat.le_of_lt (lim_lt (Nat.le_trans hl (Nat.le_of_ble_eq_true rfl))))
theorem left_ok{Φ:Nat->List V->M V}{ρ:Env'}(hl:js.length<=40):evE Φ (.val (.lst (js.map V.int))::ρ) (.bin .Add (.int 4) (.bin .FloorDiv (.bif .len (.cons (.loc 0) .nil)) (.int 8)))=M.pure (.int (4+(js.length:Int).fdiv 8)):=by
 have h2:(js.length:Int).natAbs<big:=Nat.lt_of_le_of_lt hl (by decide)
 have hd:binV .FloorDiv (.int (js.length:Int)) (.int 8)=some (.int ((js.length:Int).fdiv 8)):=bdiv ⟨nofun,h2,by decide⟩
 exact oE (.v 1 (.int js.length)<|.v 0 (.int ((js.length:Int).fdiv 8)) .e) (λ_ ez=>ai (len_js hl)<|ai hd ez)
inductive Gv(js:List Int):Prop
 |mk (gs:List Int) (h0:gs≠[]) (h1:gs.length<=1000) (e:evE (run fns 200) (lE (.lst (js.map V.int))) flaw.body.tl.hd.asE=M.pure (.lst (gs.map V.int))):Gv js
theorem given_ok(hl:js.length<=40):Gv js:=by
 have hl':js.length<=1000:=Nat.le_trans hl (Nat.le_of_ble_eq_true rfl)
 cases js with
 |nil=>exact⟨[0,0,3,0,1,6,0,0,3,0,0,0,0,10,0,0,0,3,0,2,0,0,9,0,0,1],nofun,Nat.le_of_ble_eq_true rfl,by kernel_rfl⟩
 |cons j r=>
  have c1:evE (run fns 200) (lE (.lst ((j::r).map V.int))) (.comp 11 (.bin .Mod (.loc 11) (.int 1000003)) (.loc 0) .nil)=M.pure (.lst (((j::r).map λn=>n.fmod 1000003).map V.int)):=by
   refine pv_comp rfl (it_lst (Nat.le_of_lt (lim_lt hl'))) (by rw[List.length_map];exact Nat.le_of_lt (lim_lt hl')) ?_
   rw[List.map_map]
   exact F2_map λq hq=>rfl
  have hp:cmpV .Gt (.int ((j::r).length:Int)) (.int 0)=some true:=sd (Int.ofNat_lt.mpr (Nat.succ_pos r.length))
  exact⟨(j::r).map λn=>n.fmod 1000003,nofun,by rw[List.length_map];exact hl',oE (.v 1 (.int (j::r).length)<|.b 0 true<|.m 2 (.lst (((j::r).map λn=>n.fmod 1000003).map V.int)) .e) (λ_ ez=>ai (len_js hl)<|ai hp<|ai c1 ez)⟩
end
noncomputable abbrev tl6:Ss:=flaw.body.tl.tl.tl.tl.tl.tl
noncomputable abbrev mE(a0 a1 a3:V)(rs:List Rec)(r:Rec)(p:Slot):Env':=[.val a0,.val a1,.val .w,.val a3,.val (.lst (rs.map Rec.row)),.val (.tup [.lst (rs.map λq=>q.sm.sv q.k),.lst (rs.map λq=>.int q.fm),.lst (rs.map λq=>.int q.mm)]),.val (.lst (rs.map λq=>q.sm.sv q.k)),.val (.lst (rs.map λq=>.int q.fm)),.val (.lst (rs.map λq=>.int q.mm)),.val (r.sm.sv r.k),p,.none,.none,.none,.none]
theorem law_rest{rs P:List Rec}{r:Rec}(he:rs=P++[r])(hv:VL [] rs)(hr:Sem r)(hlen:rs.length<=900)(hh:∀q∈rs,q.h<=6)(hz:nz rs=r.l){w:W}(ow:WTk w)(ha:w.at_<=90000){a0 a1 a3:V}:
  ∃ρ' σ',evSs (run fns 200) [.val a0,.val a1,.val .w,.val a3,.val (.lst (rs.map Rec.row)),.none,.none,.none,.none,.none,.none,.none,.none,.none,.none] tl6 (some w)=some ((.ret (.bool true),ρ'),σ'):=by
 refine cps λPP kk=>?_
 have hL:rs.length<=1000:=Nat.le_trans hlen (Nat.le_of_ble_eq_true rfl)
 have hl:rs.length<=lim:=Nat.le_trans hL (Nat.le_of_ble_eq_true rfl)
 have hm:∀f:Rec->V,(rs.map f).length<=lim:=λf=>Nat.le_of_lt (lim_lt hL)
 have hrh:r.h<=6:=hh r (by rw[he];exact List.mem_append_right _ (.head _))
 have f46:=parts_m hv hL 192
 have f52:=as_run he hv hr hL hh 159
 have l1:=last_of he hL λq=>q.sm.sv q.k
 have hlen':bifV .len [.lst (rs.map Rec.row)]=some (.int rs.length):=List.length_map Rec.row▸lenL (r:=rs.map Rec.row) (hm _)
 have hrg:bifV .range [.int (rs.length:Int)]=some (.rng (rs.length:Int)):=if_pos (Int.ofNat_le.mpr (Nat.le_trans hL (Nat.le_of_ble_eq_true rfl)))
 have er:∀p,evE (run fns 200) (mE a0 a1 a3 rs r p) (.bif .range (.cons (.bif .len (.cons (.loc 4) .nil)) .nil))=M.pure (.rng rs.length):=λp=>oE (.v 1 (.int rs.length)<|.v 0 (.rng rs.length) .e) (λ_ ez=>ai hlen'<|ai hrg ez)
 have hlr:((List.range rs.length).map λ(i:Nat)=>V.int i).length=rs.length:=by rw[List.length_map,List.length_range]
 obtain⟨ps,pl,pb,pe⟩:=picks_run (cond:=λv=>(evC (run fns 200) ((mE a0 a1 a3 rs r .none).set 12 (.val v)) .nil).bind λc=>(M.lift c.truth).bind M.pure) (elt:=λv=>evE (run fns 200) ((mE a0 a1 a3 rs r .none).set 12 (.val v)) (.call 36 (.cons (.loc 2) (.cons (.int 6) .nil)))) (λv=>rfl) (λv=>rfl) ((List.range rs.length).map λ(i:Nat)=>V.int i) w ow (by rw[hlr];lia)
 rw[hlr]at pl pe
 have lp:(ps.map V.int).length<=lim:=by rw[List.length_map,pl];exact hl
 have c10:=pv_compS (er .none) it_rng lp pe
 have hrep:binV .Mult (.lst [.int 0]) (.int (rs.length:Int))=some (.lst (List.replicate rs.length (.int 0))):=if_pos ⟨rfl,Int.natCast_nonneg _,Int.ofNat_le.mpr hl⟩
 obtain⟨W0,e0,w0⟩:=whole_run (ps:=List.replicate rs.length 0) he hv hL hh List.length_replicate (λx hx=>by rw[List.eq_of_mem_replicate hx];decide) 159
 obtain⟨W1,e1,w1⟩:=whole_run (ps:=ps) he hv hL hh pl pb 159
 obtain⟨W2,e2,w2⟩:=whole_run (ps:=ps.map λx=>(x+3).fmod 6) he hv hL hh (by rw[List.length_map,pl]) (λx hx=>by
  obtain⟨y,_,rfl⟩:=List.mem_map.mp hx
  have:=fm_rng (x:=y+3) (c:=6) (by constructor)
  exact⟨this.1,Int.le_of_lt_add_one this.2⟩) 159
 rw[List.map_replicate]at e0
 have hWF:∀{W},WF W r->run fns 200 35 [W]=M.pure (r.sm.sv r.k):=λhW=>run_at (by lia) (hW.1 (186-3*r.h))
 have z3:run fns 200 35 [r.sm.sv r.k]=M.pure (r.sm.sv r.k):=run_at (by lia) (hr.om.fa (191-r.h))
 have z4:run fns 200 50 [r.sm.sv r.k]=M.pure (.lst (r.l.map V.int)):=run_at (by lia) (hr.fo (190-r.h))
 have hne:=ne_self hr.om.pd (by lia)
 have c13:evE (run fns 200) (mE a0 a1 a3 rs r (.val (.lst (ps.map V.int)))) (.comp 13 (.bin .Mod (.bin .Add (.loc 13) (.int 3)) (.int 6)) (.loc 10) .nil)=M.pure (.lst ((ps.map λx=>(x+3).fmod 6).map V.int)):=by
  refine pv_comp rfl (it_lst lp) (by rw[List.length_map,List.length_map,pl];exact hl) ?_
  rw[List.map_map]
  exact F2_map λq hq=>rfl
 have c14:∀w,evE (run fns 200) (mE a0 a1 a3 rs r (.val (.lst (ps.map V.int)))) (.comp 14 (.loc 14) (.loc 7) (.cons (.cmp .NotEq (.loc 14) (.int 0)) .nil)) w=some (.lst (r.l.map V.int),w):=λw=>by
  have lz:((nz rs).map V.int).length<=lim:=by
   rw[List.length_map]
   exact Nat.le_trans (List.length_filter_le _ _) (by rw[List.length_map];exact hl)
  rw[←hz]
  exact pv_compS rfl (it_lst (hm _)) lz (congrFun (comp_nz (λi=>rfl) (λv=>rfl) rs) w)
 have heq:cmpV .Eq (.lst (r.l.map V.int)) (.lst (r.l.map V.int))=some true:=eq_self (d:=1) (Pd.lst (d:=0) (by
  intro x hx
  obtain⟨q,_,rfl⟩:=List.mem_map.mp hx
  exact pd_int)) (Nat.succ_pos _)
 exact kk (oR (.m 1 (.tup [.lst (rs.map λq=>q.sm.sv q.k),.lst (rs.map λq=>.int q.fm),.lst (rs.map λq=>.int q.mm)])<|.m 7 (.bool true)<|.v 7 (r.sm.sv r.k)<|.s 0 (.lst (ps.map V.int)) (some (w.on rs.length))<|
  .v 5 (.int rs.length)<|.v 0 (.lst (List.replicate rs.length (.int 0)))<|.m 0 W0<|.m 0 (r.sm.sv r.k)<|.b 1 false<|.m 3 (r.sm.sv r.k)<|.b 1 false<|.m 6 W1<|.m 0 (r.sm.sv r.k)<|.b 1 false<|
  .m 5 (.lst ((ps.map λx=>(x+3).fmod 6).map V.int))<|.m 0 W2<|.m 0 (r.sm.sv r.k)<|.b 1 false<|.m 3 (.lst (r.l.map V.int))<|.m 0 (.lst (r.l.map V.int))<|.b 0 true .e) (λez=>ai f46<|ai f52<|ai l1<|ai c10<|ai hlen'<|ai hrep<|ai e0<|ai (hWF w0)<|ai hne<|ai z3<|ai hne<|ai e1<|ai (hWF w1)<|ai hne<|ai c13<|ai e2<|ai (hWF w2)<|ai hne<|ai z4<|ai (funext c14:_=M.pure _)<|ai heq ez))
inductive Kt':V->Prop
 |mk {k:Int} (h:Kd k):Kt' (.int k)
theorem ev_seq{Φ:Nat->List V->M V}{ρ ρ':Env'}{s:S}{r:Ss}{σ σ':Option W}{v:V}(h:evS Φ ρ s σ=some ((.next,ρ'),σ'))(g:∃x q,evSs Φ ρ' r σ'=some ((.ret v,x),q)):∃x q,evSs Φ ρ (.cons s r) σ=some ((.ret v,x),q):=
 let⟨x,q,e⟩:=g
 ⟨x,q,(M.bind_at h).trans e⟩
noncomputable def w0(gs js:List Int):W:={given:=gs.map V.int,at_:=0,left:=4+(js.length:Int).fdiv 8,rows:=[],fin:=false}
theorem plain0(ns:List Int)(h:ns.length<=63):∃ρ' σ',evSs (run fns 200) (Slot.val (.lst (ns.map V.int))::List.replicate 14 Slot.none) flaw.body none=some ((.ret (.bool true),ρ'),σ'):=by
 have hj:(ns.take 40).length<=40:=List.length_take_le ..
 obtain⟨gs,g0,g1,ge⟩:=given_ok hj
 have o0:WdOk (w0 gs (ns.take 40)):=⟨⟨⟨gs,rfl,g0,g1⟩,Int.le_refl 0,(by decide:(0:Int)<=100000)⟩,rfl,Nat.zero_le _⟩
 obtain⟨x,x0,x1,hx⟩:=take_run o0.tk (c:=7) (Int.ofNat_lt.mpr (Nat.succ_pos _))
 obtain⟨_,@⟨k,kk⟩,_,ek⟩:=sub_al (P:=Kt') (xs:=[.int 7,.int 1,.int 13,.int 8,.int 9,.int 1,.int 10]) (.cons (.mk kd7)<|.cons (.mk kd1)<|.cons (.mk .s)<|.cons (.mk (.r .u4))<|.cons (.mk (.r .i8))<|.cons (.mk kd1)<|.cons (.mk (.r .u8)) .nil) x0 x1 (Nat.le_of_ble_eq_true rfl)
 obtain⟨z,z0,z1,hz⟩:=take2 o0.tk (by decide:(0:Int)+1<=100000) (c:=3) (Int.ofNat_lt.mpr (Nat.succ_pos _))
 obtain⟨w',P,r,e,a,rows,v,_,s,eh,ph,nzr,l⟩:=grow_all 4 (Nat.le_refl _) 0 z k _ [] rfl (o0.on (j:=2) (by decide:(0:Int)+2<=100000)) (by decide:(0:Int)+2+645<=90000) rfl (Nat.le_of_ble_eq_true rfl) kk z0 (Int.le_of_lt_add_one z1)
 have a0:(2:Int)<=w'.at_:=a.a0
 have a1:w'.at_<=2+645:=a.a1
 refine ev_seq (ρ':=lE (.lst ((ns.take 40).map V.int))) (σ':=none) (es1 (oSW (.v 1 (.lst ((ns.take 40).map V.int)) .e) (λez=>ai (script_cut h) ez)))<|ev_seq (M.bind_at (congrFun ge _))<|ev_seq (ev_newW (gs:=gs.map V.int) (n:=0) rfl rfl (left_ok hj))<|
  ev_seq (es1 (oSW (w':=some ((w0 gs (ns.take 40)).on 1)) (r:=(.next,[.val (.lst ((ns.take 40).map V.int)),.val (.lst (gs.map V.int)),.val .w,.val (.int k),.none,.none,.none,.none,.none,.none,.none,.none,.none,.none,.none])) (.s 2 (.int x) (some ((w0 gs (ns.take 40)).on 1))<|.v 0 (.int k) .e) (λez=>ai (hx 199)<|ai ek ez)))<|
  ev_seq (es1 (oSW (r:=(.next,[.val (.lst ((ns.take 40).map V.int)),.val (.lst (gs.map V.int)),.val .w,.val (.int k),.none,.none,.none,.none,.none,.none,.none,.none,.none,.none,.none])) (.s 3 (.int z) (some ((w0 gs (ns.take 40)).on 2))<|.s 0 (.int (P.length:Int)) (some w') .e) (λez=>ai (hz 199)<|ai (e 192) ez)))<|
  ev_seq (ev_frzR rfl rows) ?_
 refine law_rest (w:={w' with fin:=true}) rfl v s (Nat.le_trans (by rw[List.length_append];exact l) (by decide:121<=900)) (λq hq=>?_) nzr ⟨⟨gs,a.gv,g0,g1⟩,?_,?_⟩ ?_
 ·rcases List.mem_append.mp hq with hq|hq
  ·exact Nat.le_trans (ph q hq) (Nat.le_of_ble_eq_true rfl)
  ·rw[List.mem_singleton.mp hq];exact Nat.le_trans eh (Nat.le_of_ble_eq_true rfl)
 ·show 0<=w'.at_;lia
 ·show w'.at_<=100000;lia
 ·show w'.at_<=90000;lia
end
section
open PySem PySem.W PyProof.Rows
set_option maxRecDepth 100000
namespace Hd
noncomputable abbrev pw:Program:=PySem.Challenge.pw_xm0264_01
noncomputable def lifeB:Life:=⟨[],[],[],0,[],[],false,#[],[],0,false,false,false,0,[2000,10,10],false,0,true,[],[],0,false⟩
noncomputable def vs(x:String)(t:Nat):Value:=.str (Str.ofString x) t
noncomputable def tu(l:List Value):Obj:={cls:=.type "tuple",data:=.seq ⟨l⟩}
noncomputable def fe(l:List Value):Obj:={cls:=.none,data:=.fields ⟨l⟩}
noncomputable def co(l:List Value):Obj:={cls:=.type "code",data:=.fields ⟨l⟩}
noncomputable def en(P:Params)(x:String)(t:Nat)(v:Value):DictEntry:={hash:=PyData.keyHash P (Str.ofString x),key:=vs x t,val:=v}
noncomputable def ei(n:Int)(t:Nat)(v:Value):DictEntry:={hash:=n,key:=.int n t,val:=v}
noncomputable def bAt(k:Nat):PySem.Stmt:=(pw.main.body[k]?).getD (.Pass default)
noncomputable def mAt(k j:Nat):PySem.Stmt:=match bAt k with
 |.ClassDef (body:=b) ..=>(b[j]?).getD (.Pass default)
 |s=>s
noncomputable def fo(s:PySem.Stmt)(q:String)(c:Value)(g:Addr)(pm cd:Value):Obj:=match s with
 |.FunctionDef n a b _ _ _ sc _ _ _=>{cls:=c,data:=.func {name:=n,qualname:=Str.ofString q++n,params:=a,body:=.stmts b,scope:=sc,globals:=g,closure:=[],defaults:=.none,kwdefaults:=.none,pyModule:=pm,code:=cd}}
 |_=>default
noncomputable def fs(k:Nat):Obj:=fo (bAt k) "" .none 0 .none .none
noncomputable def fn(k:Nat)(pm:Value)(c:Addr):Obj:=fo (bAt k) "" (.type "function") 3 pm (.ref c)
noncomputable def og0(P:Params):List Obj:=[
 boot_o_0 P,
 boot_o_1 P,
 {cls:=.none,data:=Data.dict ⟨[en P "type.__subclasses__.Exception.0" 216 (.int 31 0),en P "type.__subclasses__.Exception.n" 217 (.int 1 0)]⟩ 2},
 {cls:=.type "dict",data:=Data.dict ⟨[en P "__name__" 165 (vs "law_xm0264_01" 785),en P "__doc__" 166 (.none),en P "__package__" 167 (.none),en P "__loader__" 168 (.builtin "__main__.__loader__#opaque"),en P "__spec__" 169 (.none),en P "__annotations__" 170 (.ref 6),en P "__builtins__" 171 (.ref 4),en P "__file__" 173 (vs "/claim/cut.py" 172),en P "__cached__" 174 (.none),en P "RuneError" 219 (.ref 31),en P "BadKind" 235 (.ref 44),en P "BOOL" 239 (.int 1 238),en P "CHAR" 241 (.int 2 240),en P "I1" 243 (.int 3 242),en P "U1" 245 (.int 4 244),en P "I2" 247 (.int 5 246),en P "U2" 249 (.int 6 248),en P "I4" 251 (.int 7 250),en P "U4" 253 (.int 8 252),en P "I8" 255 (.int 9 254),en P "U8" 257 (.int 10 256),en P "NINT" 259 (.int 11 258),en P "OBJECT" 261 (.int 12 260),en P "STRING" 263 (.int 13 262),en P "NULLK" 265 (.int 14 264),en P "BAD" 267 (.int 15 266),en P "INT_RANGES" 306 (.ref 47),en P "int_range" 313 (.ref 65),en P "is_number" 320 (.ref 72),en P "X_CONST" 324 (.int 1 323),en P "X_LOCAL" 326 (.int 2 325),en P "X_FIELD" 328 (.int 4 327),en P "X_ELEM" 330 (.int 6 329),en P "X_LEN" 332 (.int 7 331),en P "X_CALL" 334 (.int 8 333),en P "X_NEW" 336 (.int 9 335),en P "X_NEWARR" 338 (.int 10 337),en P "X_ARRLIT" 340 (.int 11 339),en P "X_DEFAULT" 342 (.int 12 341),en P "X_UN" 344 (.int 13 343),en P "X_BIN" 346 (.int 14 345),en P "X_AND" 348 (.int 15 347),en P "X_OR" 350 (.int 16 349),en P "X_COND" 352 (.int 17 351),en P "X_COALESCE" 354 (.int 18 353),en P "X_CONV" 356 (.int 19 355),en P "X_IS" 358 (.int 20 357),en P "X_AS" 360 (.int 21 359),en P "X_ASSIGN" 362 (.int 22 361),en P "X_COMPOUND" 364 (.int 23 363),en P "X_DELEG" 366 (.int 25 365),en P "X_CONCAT" 368 (.int 26 367),en P "X_LIFT" 370 (.int 27 369),en P "X_LIFTUN" 372 (.int 28 371),en P "X_AWAIT" 374 (.int 30 373),en P "X_SEQ" 376 (.int 31 375),en P "X_REF" 378 (.int 33 377),en P "X_PROP" 380 (.int 34 379),en P "X_BASECTOR" 382 (.int 35 381),en P "X_FNREF" 384 (.int 36 383),en P "CV_NUM" 386 (.int 1 385),en P "CV_REF" 388 (.int 2 387),en P "CV_CAST" 390 (.int 3 389),en P "CV_BOX" 392 (.int 4 391),en P "CV_NULL" 394 (.int 8 393),en P "CV_SAME" 396 (.int 10 395),en P "KS_ONE" 398 (.int 1 397),en P "KS_MAYBE" 400 (.int 2 399),en P "KS_ROW" 402 (.int 3 401),en P "KID_PLACES" 472 (.ref 73),en P "parts_at" 484 (.ref 150),en P "kids_of" 491 (.ref 157),en P "with_kids" 504 (.ref 164),en P "FD_OVERFLOW" 508 (.int 220 507),en P "FD_CONVERT" 510 (.int 221 509),en P "FD_ZERO" 512 (.int 20 511),en P "COMPARES" 519 (.ref 165),en P "cut" 529 (.ref 172),en P "in_range" 539 (.ref 179),en P "fold_width" 546 (.ref 186),en P "fold_compare" 555 (.ref 193),en P "fold_bits" 564 (.ref 200),en P "fold_shift" 575 (.ref 207),en P "fold_divide" 588 (.ref 214),en P "fold_whole" 597 (.ref 221),en P "fold_bin" 608 (.ref 228),en P "fold_un" 618 (.ref 235),en P "fold_conv" 628 (.ref 242),en P "known" 635 (.ref 249),en P "numeric" 642 (.ref 256),en P "made" 650 (.ref 263),en P "as_constant" 659 (.ref 270),en P "bin_known" 668 (.ref 277),en P "zero_right" 676 (.ref 284),en P "bin_result" 683 (.ref 291),en P "fold_fault" 691 (.ref 298),en P "fold_unary" 698 (.ref 305),en P "fold_binary" 705 (.ref 312),en P "fold_logic" 712 (.ref 319),en P "fold_choice" 719 (.ref 326),en P "is_constant_null" 726 (.ref 333),en P "null_turned" 733 (.ref 340),en P "fold_convert" 741 (.ref 347),en P "fold_default" 748 (.ref 354),en P "text_part" 755 (.ref 361),en P "fold_concat" 766 (.ref 368),en P "fold" 774 (.ref 375),en P "fold_all" 784 (.ref 382),en P "_law_E" 788 (.int 40 787),en P "_law_C" 790 (.int 41 789),en P "_law_take" 800 (.ref 389),en P "_law_span" 809 (.ref 396),en P "_law_value" 820 (.ref 403),en P "_law_leaf" 829 (.ref 410),en P "_law_number" 840 (.ref 417),en P "_law_truth" 850 (.ref 424),en P "_law_words" 862 (.ref 431),en P "_law_grow" 878 (.ref 438),en P "_law_put" 890 (.ref 445),en P "_law_still" 897 (.ref 452),en P "_law_parts" 903 (.ref 457),en P "_law_whole" 909 (.ref 462),en P "_law_two" 924 (.ref 469),en P "_law_meant" 930 (.ref 474),en P "_law_found" 942 (.ref 481),en P "_law_unmarked" 948 (.ref 486),en P "_law_as_meant" 954 (.ref 491),en P "_law_turned" 965 (.ref 498),en P "law" 971 (.ref 503)]⟩ 129},
 boot_o_4 P,
 boot_o_5 P,
 boot_o_6 P,
 boot_o_7 P,
 boot_o_8 P,
 boot_o_9 P,
 boot_o_10 P,
 tu [],
 fe [.int 2 0,.int 0 0,.ref 20,.int 7 0,.int 0 0,.ref 40,.int 26 0,.int 0 0,.ref 64,.int 30 0,.int 0 0,.ref 71,.int 74 0,.int 0 0,.ref 149,.int 83 0,.int 0 0,.ref 156,.int 85 0,.int 0 0,.ref 163,.int 102 0,.int 0 0,.ref 171,.int 105 0,.int 0 0,.ref 178,.int 108 0,.int 0 0,.ref 185,.int 112 0,.int 0 0,.ref 192,.int 124 0,.int 0 0,.ref 199,.int 130 0,.int 0 0,.ref 206,.int 135 0,.int 0 0,.ref 213,.int 149 0,.int 0 0,.ref 220,.int 155 0,.int 0 0,.ref 227,.int 169 0,.int 0 0,.ref 234,.int 175 0,.int 0 0,.ref 241,.int 180 0,.int 0 0,.ref 248,.int 182 0,.int 0 0,.ref 255,.int 184 0,.int 0 0,.ref 262,.int 188 0,.int 0 0,.ref 269,.int 199 0,.int 0 0,.ref 276,.int 207 0,.int 0 0,.ref 283,.int 210 0,.int 0 0,.ref 290,.int 212 0,.int 0 0,.ref 297,.int 223 0,.int 0 0,.ref 304,.int 227 0,.int 0 0,.ref 311,.int 231 0,.int 0 0,.ref 318,.int 237 0,.int 0 0,.ref 325,.int 243 0,.int 0 0,.ref 332,.int 247 0,.int 0 0,.ref 339,.int 253 0,.int 0 0,.ref 346,.int 268 0,.int 0 0,.ref 353,.int 274 0,.int 0 0,.ref 360,.int 282 0,.int 0 0,.ref 367,.int 299 0,.int 0 0,.ref 374,.int 316 0,.int 0 0,.ref 381,.int 329 0,.int 0 0,.ref 388,.int 334 0,.int 0 0,.ref 395,.int 338 0,.int 0 0,.ref 402,.int 348 0,.int 0 0,.ref 409,.int 359 0,.int 0 0,.ref 416,.int 371 0,.int 0 0,.ref 423,.int 383 0,.int 0 0,.ref 430,.int 399 0,.int 0 0,.ref 437,.int 420 0,.int 0 0,.ref 444,.int 437 0,.int 0 0,.ref 451,.int 439 0,.int 0 0,.ref 456,.int 454 0,.int 0 0,.ref 461,.int 474 0,.int 0 0,.ref 468,.int 497 0,.int 0 0,.ref 473,.int 536 0,.int 0 0,.ref 480,.int 545 0,.int 0 0,.ref 485,.int 554 0,.int 0 0,.ref 490,.int 580 0,.int 0 0,.ref 497,.int 585 0,.int 0 0,.ref 502],
 co [vs "<module>" 182,vs "<module>" 183,vs "/claim/cut.py" 184,.int 1 0,.int 0 0,.int 0 0,.int 0 0,.int 0 0,.ref 11,.bool false,.int 181 0,.ref 12,.none,.none,.none,.none,.int 185 0,.int 1 0,vs "/claim/cut.py" 186],
 {cls:=.type "frame",slots:=⟨[some (.ref 13),some (.ref 3),some (.ref 3),none,some (vs "__main__" 164),none,some (.ref 0)]⟩},
 tu [.type "Exception"],
 {cls:=.type "builtin_function_or_method",data:=Data.fields ⟨[.builtin "type.__prepare__",.type "type"]⟩},
 {cls:=.type "dict",data:=Data.dict ⟨[en P "__module__" 196 (vs "framerune.faults" 187),en P "__qualname__" 198 (vs "RuneError" 197),en P "__firstlineno__" 200 (.int 2 199),en P "__init__" 209 (.ref 28),en P "__static_attributes__" 212 (.ref 29)]⟩ 5},
 tu [],
 fe [.int 4 0,.int 4 0,.ref 27],
 co [vs "RuneError" 191,vs "RuneError" 192,vs "/claim/cut.py" 193,.int 2 0,.int 0 0,.int 0 0,.int 0 0,.int 0 0,.ref 18,.bool false,.int 181 0,.ref 19,.none,.none,.none,.none,.int 194 0,.int 2 0,vs "/claim/cut.py" 195],
 {cls:=.type "frame",slots:=⟨[some (.ref 20),some (.ref 3),some (.ref 17),none,some (vs "framerune.faults" 187),none,some (.ref 0)]⟩},
 tu [],
 fe [],
 tu [vs "self" 204,vs "code" 205,vs "at" 206],
 tu [],
 fo (mAt 1 0) "RuneError." .none 0 .none .none,
 co [vs "__init__" 201,vs "RuneError.__init__" 202,vs "/claim/cut.py" 203,.int 4 0,.int 3 0,.int 0 0,.int 0 0,.int 3 0,.ref 22,.bool true,.int 181 0,.ref 23,.none,.ref 24,.ref 25,.ref 26,.int 207 0,.int 4 0,vs "/claim/cut.py" 208],
 fo (mAt 1 0) "RuneError." (.type "function") 3 (vs "framerune.faults" 187) (.ref 27),
 tu [vs "at" 210,vs "code" 211],
 {cls:=.type "dict",data:=Data.dict ⟨[en P "__module__" 196 (vs "framerune.faults" 187),en P "__firstlineno__" 200 (.int 2 199),en P "__init__" 209 (.ref 28),en P "__static_attributes__" 212 (.ref 29),en P "__weakref__" 214 (.ref 32),en P "__doc__" 215 (.none)]⟩ 3},
 {cls:=.type "type",data:=Data.cls {name:=Str.ofString "RuneError",bases:=[.type "Exception"],mro:=[.ref 31,.type "Exception",.type "BaseException",.type "object"],ns:=30,qualname:=Str.ofString "RuneError",subclasses:=[.ref 44]},slots:=⟨[some (.ref 15),none,some (vs "RuneError" 189),some (vs "RuneError" 197),some (.builtin "Exception.__new__"),some (.bool true)]⟩},
 {cls:=.type "getset_descriptor",data:=Data.fields ⟨[vs "__weakref__" 213,.ref 31,.builtin "ExceptionGroup.__weakref__",.none]⟩},
 {cls:=.type "super",data:=Data.fields ⟨[.ref 31,.ref 31,.ref 31]⟩},
 {cls:=.type "builtin_function_or_method",data:=Data.fields ⟨[.builtin "object.__init_subclass__",.ref 31]⟩},
 tu [.ref 31],
 {cls:=.type "builtin_function_or_method",data:=Data.fields ⟨[.builtin "type.__prepare__",.type "type"]⟩},
 {cls:=.type "dict",data:=Data.dict ⟨[en P "__module__" 227 (vs "framerune.faults" 187),en P "__qualname__" 229 (vs "BadKind" 228),en P "__firstlineno__" 231 (.int 7 230),en P "__static_attributes__" 232 (.ref 42)]⟩ 4},
 tu [],
 fe [],
 co [vs "BadKind" 222,vs "BadKind" 223,vs "/claim/cut.py" 224,.int 7 0,.int 0 0,.int 0 0,.int 0 0,.int 0 0,.ref 38,.bool false,.int 181 0,.ref 39,.none,.none,.none,.none,.int 225 0,.int 7 0,vs "/claim/cut.py" 226],
 {cls:=.type "frame",slots:=⟨[some (.ref 40),some (.ref 3),some (.ref 37),none,some (vs "framerune.faults" 187),none,some (.ref 0)]⟩},
 tu [],
 {cls:=.type "dict",data:=Data.dict ⟨[en P "__module__" 227 (vs "framerune.faults" 187),en P "__firstlineno__" 231 (.int 7 230),en P "__static_attributes__" 232 (.ref 42),en P "__doc__" 233 (.none)]⟩ 2},
 {cls:=.type "type",data:=Data.cls {name:=Str.ofString "BadKind",bases:=[.ref 31],mro:=[.ref 44,.ref 31,.type "Exception",.type "BaseException",.type "object"],ns:=43,qualname:=Str.ofString "BadKind"},slots:=⟨[some (.ref 35),none,some (vs "BadKind" 220),some (vs "BadKind" 228),some (.builtin "Exception.__new__"),some (.bool true)]⟩},
 {cls:=.type "super",data:=Data.fields ⟨[.ref 44,.ref 44,.ref 44]⟩},
 {cls:=.type "builtin_function_or_method",data:=Data.fields ⟨[.builtin "object.__init_subclass__",.ref 44]⟩},
 {cls:=.type "dict",data:=Data.dict ⟨[ei 1 238 (.ref 48),ei 2 240 (.ref 49),ei 3 242 (.ref 50),ei 4 244 (.ref 51),ei 5 246 (.ref 52),ei 6 248 (.ref 53),ei 7 250 (.ref 54),ei 8 252 (.ref 55),ei 9 254 (.ref 56),ei 10 256 (.ref 57),ei 11 258 (.ref 58)]⟩ 11},
 tu [.int 0 268,.int 255 269],
 tu [.int 0 270,.int 65535 271],
 tu [.int (-128) 273,.int 127 274],
 tu [.int 0 275,.int 255 276],
 tu [.int (-32768) 278,.int 32767 279],
 tu [.int 0 280,.int 65535 281],
 tu [.int (-2147483648) 283,.int 2147483647 284],
 tu [.int 0 285,.int 4294967295 286],
 tu [.int (-9223372036854775808) 288,.int 9223372036854775807 289],
 tu [.int 0 290,.int 18446744073709551615 291],
 tu [.int (-2147483648) 293,.int 2147483647 294],
 tu [],
 fe [],
 tu [vs "k" 310],
 tu [],
 fs 20]
noncomputable def og1(P:Params):List Obj:=[
 co [vs "int_range" 307,vs "int_range" 308,vs "/claim/cut.py" 309,.int 26 0,.int 1 0,.int 0 0,.int 0 0,.int 3 0,.ref 59,.bool true,.int 181 0,.ref 60,.none,.ref 61,.ref 62,.ref 63,.int 311 0,.int 26 0,vs "/claim/cut.py" 312],
 fn 20 (vs "framerune.kinds" 236) 64,
 tu [],
 fe [],
 tu [vs "k" 317],
 tu [],
 fs 21,
 co [vs "is_number" 314,vs "is_number" 315,vs "/claim/cut.py" 316,.int 30 0,.int 1 0,.int 0 0,.int 0 0,.int 3 0,.ref 66,.bool true,.int 181 0,.ref 67,.none,.ref 68,.ref 69,.ref 70,.int 318 0,.int 30 0,vs "/claim/cut.py" 319],
 fn 21 (vs "framerune.kinds" 236) 71,
 {cls:=.type "dict",data:=Data.dict ⟨[ei 4 327 (.ref 75),ei 6 329 (.ref 78),ei 7 331 (.ref 80),ei 8 333 (.ref 83),ei 9 335 (.ref 85),ei 10 337 (.ref 87),ei 11 339 (.ref 89),ei 13 343 (.ref 91),ei 14 345 (.ref 94),ei 15 347 (.ref 97),ei 16 349 (.ref 100),ei 17 351 (.ref 104),ei 18 353 (.ref 107),ei 19 355 (.ref 109),ei 20 357 (.ref 111),ei 21 359 (.ref 113),ei 22 361 (.ref 116),ei 23 363 (.ref 120),ei 25 365 (.ref 122),ei 26 367 (.ref 124),ei 27 369 (.ref 127),ei 28 371 (.ref 129),ei 30 373 (.ref 131),ei 31 375 (.ref 134),ei 33 377 (.ref 136),ei 34 379 (.ref 139),ei 35 381 (.ref 141),ei 36 383 (.ref 143)]⟩ 28},
 tu [.int 2 403,.int 1 397],
 tu [.ref 74],
 tu [.int 2 405,.int 1 397],
 tu [.int 3 406,.int 1 397],
 tu [.ref 76,.ref 77],
 tu [.int 2 408,.int 1 397],
 tu [.ref 79],
 tu [.int 2 410,.int 2 399],
 tu [.int 4 411,.int 3 401],
 tu [.ref 81,.ref 82],
 tu [.int 3 413,.int 3 401],
 tu [.ref 84],
 tu [.int 2 415,.int 1 397],
 tu [.ref 86],
 tu [.int 2 417,.int 3 401],
 tu [.ref 88],
 tu [.int 3 419,.int 1 397],
 tu [.ref 90],
 tu [.int 3 421,.int 1 397],
 tu [.int 4 422,.int 1 397],
 tu [.ref 92,.ref 93],
 tu [.int 2 424,.int 1 397],
 tu [.int 3 425,.int 1 397],
 tu [.ref 95,.ref 96],
 tu [.int 2 427,.int 1 397],
 tu [.int 3 428,.int 1 397],
 tu [.ref 98,.ref 99],
 tu [.int 2 430,.int 1 397],
 tu [.int 3 431,.int 1 397],
 tu [.int 4 432,.int 1 397],
 tu [.ref 101,.ref 102,.ref 103],
 tu [.int 2 434,.int 1 397],
 tu [.int 3 435,.int 1 397],
 tu [.ref 105,.ref 106],
 tu [.int 2 437,.int 1 397],
 tu [.ref 108],
 tu [.int 2 439,.int 1 397],
 tu [.ref 110],
 tu [.int 2 441,.int 1 397],
 tu [.ref 112],
 tu [.int 2 443,.int 1 397],
 tu [.int 3 444,.int 1 397],
 tu [.ref 114,.ref 115],
 {cls:=.type "dict",data:=Data.dict ⟨[ei 23 363 (.ref 120),ei 25 365 (.ref 122),ei 26 367 (.ref 124),ei 27 369 (.ref 127),ei 28 371 (.ref 129),ei 30 373 (.ref 131),ei 31 375 (.ref 134),ei 33 377 (.ref 136),ei 34 379 (.ref 139),ei 35 381 (.ref 141),ei 36 383 (.ref 143)]⟩ 11},
 tu [.int 2 446,.int 1 397],
 tu [.int 3 447,.int 1 397],
 tu [.ref 118,.ref 119],
 tu [.int 2 448,.int 2 399],
 tu [.ref 121],
 tu [.int 2 449,.int 3 401],
 tu [.ref 123],
 tu [.int 3 450,.int 1 397],
 tu [.int 4 451,.int 1 397],
 tu [.ref 125,.ref 126]]
noncomputable def og2(P:Params):List Obj:=[
 tu [.int 3 452,.int 1 397],
 tu [.ref 128],
 tu [.int 2 453,.int 1 397],
 tu [.ref 130],
 tu [.int 2 454,.int 3 401],
 tu [.int 3 455,.int 1 397],
 tu [.ref 132,.ref 133],
 tu [.int 2 456,.int 1 397],
 tu [.ref 135],
 tu [.int 2 457,.int 2 399],
 tu [.int 5 458,.int 3 401],
 tu [.ref 137,.ref 138],
 tu [.int 3 459,.int 3 401],
 tu [.ref 140],
 tu [.int 2 460,.int 2 399],
 tu [.ref 142],
 tu [],
 fe [],
 tu [vs "row" 476,vs "places" 477,vs "out" 478,vs "place" 479,vs "sort" 480,vs "part" 481],
 tu [],
 fs 64,
 co [vs "parts_at" 473,vs "parts_at" 474,vs "/claim/cut.py" 475,.int 74 0,.int 2 0,.int 0 0,.int 0 0,.int 3 0,.ref 144,.bool true,.int 181 0,.ref 145,.none,.ref 146,.ref 147,.ref 148,.int 482 0,.int 74 0,vs "/claim/cut.py" 483],
 fn 64 (vs "framerune.csbound" 321) 149,
 tu [],
 fe [],
 tu [vs "e" 488],
 tu [],
 fs 65,
 co [vs "kids_of" 485,vs "kids_of" 486,vs "/claim/cut.py" 487,.int 83 0,.int 1 0,.int 0 0,.int 0 0,.int 3 0,.ref 151,.bool true,.int 181 0,.ref 152,.none,.ref 153,.ref 154,.ref 155,.int 489 0,.int 83 0,vs "/claim/cut.py" 490],
 fn 65 (vs "framerune.csbound" 321) 156,
 tu [],
 fe [],
 tu [vs "e" 495,vs "kids" 496,vs "row" 497,vs "at" 498,vs "place" 499,vs "sort" 500,vs "part" 501],
 tu [],
 fs 66,
 co [vs "with_kids" 492,vs "with_kids" 493,vs "/claim/cut.py" 494,.int 85 0,.int 2 0,.int 0 0,.int 0 0,.int 3 0,.ref 158,.bool true,.int 181 0,.ref 159,.none,.ref 160,.ref 161,.ref 162,.int 502 0,.int 85 0,vs "/claim/cut.py" 503],
 fn 66 (vs "framerune.csbound" 321) 163,
 tu [vs "==" 513,vs "!=" 514,vs "<" 515,vs "<=" 516,vs ">" 517,vs ">=" 518],
 tu [],
 fe [],
 tu [vs "k" 523,vs "n" 524,vs "low" 525,vs "high" 526],
 tu [],
 fs 72,
 co [vs "cut" 520,vs "cut" 521,vs "/claim/cut.py" 522,.int 102 0,.int 2 0,.int 0 0,.int 0 0,.int 3 0,.ref 166,.bool true,.int 181 0,.ref 167,.none,.ref 168,.ref 169,.ref 170,.int 527 0,.int 102 0,vs "/claim/cut.py" 528],
 fn 72 (vs "framerune.csfold" 505) 171,
 tu [],
 fe [],
 tu [vs "k" 533,vs "n" 534,vs "low" 535,vs "high" 536],
 tu [],
 fs 73,
 co [vs "in_range" 530,vs "in_range" 531,vs "/claim/cut.py" 532,.int 105 0,.int 2 0,.int 0 0,.int 0 0,.int 3 0,.ref 173,.bool true,.int 181 0,.ref 174,.none,.ref 175,.ref 176,.ref 177,.int 537 0,.int 105 0,vs "/claim/cut.py" 538],
 fn 73 (vs "framerune.csfold" 505) 178,
 tu [],
 fe [],
 tu [vs "k" 543],
 tu [],
 fs 74,
 co [vs "fold_width" 540,vs "fold_width" 541,vs "/claim/cut.py" 542,.int 108 0,.int 1 0,.int 0 0,.int 0 0,.int 3 0,.ref 180,.bool true,.int 181 0,.ref 181,.none,.ref 182,.ref 183,.ref 184,.int 544 0,.int 108 0,vs "/claim/cut.py" 545],
 fn 74 (vs "framerune.csfold" 505) 185,
 tu [],
 fe [],
 tu [vs "op" 550,vs "a" 551,vs "b" 552],
 tu [],
 fs 75]
noncomputable def og3(P:Params):List Obj:=[
 co [vs "fold_compare" 547,vs "fold_compare" 548,vs "/claim/cut.py" 549,.int 112 0,.int 3 0,.int 0 0,.int 0 0,.int 3 0,.ref 187,.bool true,.int 181 0,.ref 188,.none,.ref 189,.ref 190,.ref 191,.int 553 0,.int 112 0,vs "/claim/cut.py" 554],
 fn 75 (vs "framerune.csfold" 505) 192,
 tu [],
 fe [],
 tu [vs "op" 559,vs "a" 560,vs "b" 561],
 tu [],
 fs 76,
 co [vs "fold_bits" 556,vs "fold_bits" 557,vs "/claim/cut.py" 558,.int 124 0,.int 3 0,.int 0 0,.int 0 0,.int 3 0,.ref 194,.bool true,.int 181 0,.ref 195,.none,.ref 196,.ref 197,.ref 198,.int 562 0,.int 124 0,vs "/claim/cut.py" 563],
 fn 76 (vs "framerune.csfold" 505) 199,
 tu [],
 fe [],
 tu [vs "op" 568,vs "k" 569,vs "a" 570,vs "b" 571,vs "n" 572],
 tu [],
 fs 77,
 co [vs "fold_shift" 565,vs "fold_shift" 566,vs "/claim/cut.py" 567,.int 130 0,.int 4 0,.int 0 0,.int 0 0,.int 3 0,.ref 201,.bool true,.int 181 0,.ref 202,.none,.ref 203,.ref 204,.ref 205,.int 573 0,.int 130 0,vs "/claim/cut.py" 574],
 fn 77 (vs "framerune.csfold" 505) 206,
 tu [],
 fe [],
 tu [vs "op" 579,vs "k" 580,vs "a" 581,vs "b" 582,vs "checked" 583,vs "low" 584,vs "q" 585],
 tu [],
 fs 78,
 co [vs "fold_divide" 576,vs "fold_divide" 577,vs "/claim/cut.py" 578,.int 135 0,.int 5 0,.int 0 0,.int 0 0,.int 3 0,.ref 208,.bool true,.int 181 0,.ref 209,.none,.ref 210,.ref 211,.ref 212,.int 586 0,.int 135 0,vs "/claim/cut.py" 587],
 fn 78 (vs "framerune.csfold" 505) 213,
 tu [],
 fe [],
 tu [vs "k" 592,vs "n" 593,vs "checked" 594],
 tu [],
 fs 79,
 co [vs "fold_whole" 589,vs "fold_whole" 590,vs "/claim/cut.py" 591,.int 149 0,.int 3 0,.int 0 0,.int 0 0,.int 3 0,.ref 215,.bool true,.int 181 0,.ref 216,.none,.ref 217,.ref 218,.ref 219,.int 595 0,.int 149 0,vs "/claim/cut.py" 596],
 fn 79 (vs "framerune.csfold" 505) 220,
 tu [],
 fe [],
 tu [vs "op" 601,vs "k" 602,vs "a" 603,vs "b" 604,vs "checked" 605],
 tu [],
 fs 80,
 co [vs "fold_bin" 598,vs "fold_bin" 599,vs "/claim/cut.py" 600,.int 155 0,.int 5 0,.int 0 0,.int 0 0,.int 3 0,.ref 222,.bool true,.int 181 0,.ref 223,.none,.ref 224,.ref 225,.ref 226,.int 606 0,.int 155 0,vs "/claim/cut.py" 607],
 fn 80 (vs "framerune.csfold" 505) 227,
 tu [],
 fe [],
 tu [vs "op" 612,vs "k" 613,vs "a" 614,vs "checked" 615],
 tu [],
 fs 81,
 co [vs "fold_un" 609,vs "fold_un" 610,vs "/claim/cut.py" 611,.int 169 0,.int 4 0,.int 0 0,.int 0 0,.int 3 0,.ref 229,.bool true,.int 181 0,.ref 230,.none,.ref 231,.ref 232,.ref 233,.int 616 0,.int 169 0,vs "/claim/cut.py" 617],
 fn 81 (vs "framerune.csfold" 505) 234,
 tu [],
 fe [],
 tu [vs "k" 622,vs "value" 623,vs "checked" 624,vs "pair" 625],
 tu [],
 fs 82,
 co [vs "fold_conv" 619,vs "fold_conv" 620,vs "/claim/cut.py" 621,.int 175 0,.int 3 0,.int 0 0,.int 0 0,.int 3 0,.ref 236,.bool true,.int 181 0,.ref 237,.none,.ref 238,.ref 239,.ref 240,.int 626 0,.int 175 0,vs "/claim/cut.py" 627],
 fn 82 (vs "framerune.csfold" 505) 241,
 tu [],
 fe [],
 tu [vs "e" 632],
 tu [],
 fs 83,
 co [vs "known" 629,vs "known" 630,vs "/claim/cut.py" 631,.int 180 0,.int 1 0,.int 0 0,.int 0 0,.int 3 0,.ref 243,.bool true,.int 181 0,.ref 244,.none,.ref 245,.ref 246,.ref 247,.int 633 0,.int 180 0,vs "/claim/cut.py" 634],
 fn 83 (vs "framerune.csfold" 505) 248,
 tu [],
 fe [],
 tu [vs "e" 639],
 tu [],
 fs 84,
 co [vs "numeric" 636,vs "numeric" 637,vs "/claim/cut.py" 638,.int 182 0,.int 1 0,.int 0 0,.int 0 0,.int 3 0,.ref 250,.bool true,.int 181 0,.ref 251,.none,.ref 252,.ref 253,.ref 254,.int 640 0,.int 182 0,vs "/claim/cut.py" 641]]
noncomputable def og4(P:Params):List Obj:=[
 fn 84 (vs "framerune.csfold" 505) 255,
 tu [],
 fe [],
 tu [vs "e" 646,vs "pair" 647],
 tu [],
 fs 85,
 co [vs "made" 643,vs "made" 644,vs "/claim/cut.py" 645,.int 184 0,.int 2 0,.int 0 0,.int 0 0,.int 3 0,.ref 257,.bool true,.int 181 0,.ref 258,.none,.ref 259,.ref 260,.ref 261,.int 648 0,.int 184 0,vs "/claim/cut.py" 649],
 fn 85 (vs "framerune.csfold" 505) 262,
 tu [],
 fe [],
 tu [vs "e" 654,vs "loose" 655,vs "code" 656],
 tu [],
 fs 86,
 co [vs "as_constant" 651,vs "as_constant" 652,vs "/claim/cut.py" 653,.int 188 0,.int 2 0,.int 0 0,.int 0 0,.int 3 0,.ref 264,.bool true,.int 181 0,.ref 265,.none,.ref 266,.ref 267,.ref 268,.int 657 0,.int 188 0,vs "/claim/cut.py" 658],
 fn 86 (vs "framerune.csfold" 505) 269,
 tu [],
 fe [],
 tu [vs "e" 663,vs "l" 664,vs "r" 665],
 tu [],
 fs 87,
 co [vs "bin_known" 660,vs "bin_known" 661,vs "/claim/cut.py" 662,.int 199 0,.int 1 0,.int 0 0,.int 0 0,.int 3 0,.ref 271,.bool true,.int 181 0,.ref 272,.none,.ref 273,.ref 274,.ref 275,.int 666 0,.int 199 0,vs "/claim/cut.py" 667],
 fn 87 (vs "framerune.csfold" 505) 276,
 tu [],
 fe [],
 tu [vs "e" 672,vs "r" 673],
 tu [],
 fs 88,
 co [vs "zero_right" 669,vs "zero_right" 670,vs "/claim/cut.py" 671,.int 207 0,.int 1 0,.int 0 0,.int 0 0,.int 3 0,.ref 278,.bool true,.int 181 0,.ref 279,.none,.ref 280,.ref 281,.ref 282,.int 674 0,.int 207 0,vs "/claim/cut.py" 675],
 fn 88 (vs "framerune.csfold" 505) 283,
 tu [],
 fe [],
 tu [vs "e" 680],
 tu [],
 fs 89,
 co [vs "bin_result" 677,vs "bin_result" 678,vs "/claim/cut.py" 679,.int 210 0,.int 1 0,.int 0 0,.int 0 0,.int 3 0,.ref 285,.bool true,.int 181 0,.ref 286,.none,.ref 287,.ref 288,.ref 289,.int 681 0,.int 210 0,vs "/claim/cut.py" 682],
 fn 89 (vs "framerune.csfold" 505) 290,
 tu [],
 fe [],
 tu [vs "e" 687,vs "code" 688],
 tu [],
 fs 90,
 co [vs "fold_fault" 684,vs "fold_fault" 685,vs "/claim/cut.py" 686,.int 212 0,.int 1 0,.int 0 0,.int 0 0,.int 3 0,.ref 292,.bool true,.int 181 0,.ref 293,.none,.ref 294,.ref 295,.ref 296,.int 689 0,.int 212 0,vs "/claim/cut.py" 690],
 fn 90 (vs "framerune.csfold" 505) 297,
 tu [],
 fe [],
 tu [vs "e" 695],
 tu [],
 fs 91,
 co [vs "fold_unary" 692,vs "fold_unary" 693,vs "/claim/cut.py" 694,.int 223 0,.int 1 0,.int 0 0,.int 0 0,.int 3 0,.ref 299,.bool true,.int 181 0,.ref 300,.none,.ref 301,.ref 302,.ref 303,.int 696 0,.int 223 0,vs "/claim/cut.py" 697],
 fn 91 (vs "framerune.csfold" 505) 304,
 tu [],
 fe [],
 tu [vs "e" 702],
 tu [],
 fs 92,
 co [vs "fold_binary" 699,vs "fold_binary" 700,vs "/claim/cut.py" 701,.int 227 0,.int 1 0,.int 0 0,.int 0 0,.int 3 0,.ref 306,.bool true,.int 181 0,.ref 307,.none,.ref 308,.ref 309,.ref 310,.int 703 0,.int 227 0,vs "/claim/cut.py" 704],
 fn 92 (vs "framerune.csfold" 505) 311,
 tu [],
 fe [],
 tu [vs "e" 709],
 tu [],
 fs 93,
 co [vs "fold_logic" 706,vs "fold_logic" 707,vs "/claim/cut.py" 708,.int 231 0,.int 1 0,.int 0 0,.int 0 0,.int 3 0,.ref 313,.bool true,.int 181 0,.ref 314,.none,.ref 315,.ref 316,.ref 317,.int 710 0,.int 231 0,vs "/claim/cut.py" 711],
 fn 93 (vs "framerune.csfold" 505) 318]
noncomputable def og5(P:Params):List Obj:=[
 tu [],
 fe [],
 tu [vs "e" 716],
 tu [],
 fs 94,
 co [vs "fold_choice" 713,vs "fold_choice" 714,vs "/claim/cut.py" 715,.int 237 0,.int 1 0,.int 0 0,.int 0 0,.int 3 0,.ref 320,.bool true,.int 181 0,.ref 321,.none,.ref 322,.ref 323,.ref 324,.int 717 0,.int 237 0,vs "/claim/cut.py" 718],
 fn 94 (vs "framerune.csfold" 505) 325,
 tu [],
 fe [],
 tu [vs "e" 723],
 tu [],
 fs 95,
 co [vs "is_constant_null" 720,vs "is_constant_null" 721,vs "/claim/cut.py" 722,.int 243 0,.int 1 0,.int 0 0,.int 0 0,.int 3 0,.ref 327,.bool true,.int 181 0,.ref 328,.none,.ref 329,.ref 330,.ref 331,.int 724 0,.int 243 0,vs "/claim/cut.py" 725],
 fn 95 (vs "framerune.csfold" 505) 332,
 tu [],
 fe [],
 tu [vs "e" 730],
 tu [],
 fs 96,
 co [vs "null_turned" 727,vs "null_turned" 728,vs "/claim/cut.py" 729,.int 247 0,.int 1 0,.int 0 0,.int 0 0,.int 3 0,.ref 334,.bool true,.int 181 0,.ref 335,.none,.ref 336,.ref 337,.ref 338,.int 731 0,.int 247 0,vs "/claim/cut.py" 732],
 fn 96 (vs "framerune.csfold" 505) 339,
 tu [],
 fe [],
 tu [vs "e" 737,vs "inner" 738],
 tu [],
 fs 97,
 co [vs "fold_convert" 734,vs "fold_convert" 735,vs "/claim/cut.py" 736,.int 253 0,.int 1 0,.int 0 0,.int 0 0,.int 3 0,.ref 341,.bool true,.int 181 0,.ref 342,.none,.ref 343,.ref 344,.ref 345,.int 739 0,.int 253 0,vs "/claim/cut.py" 740],
 fn 97 (vs "framerune.csfold" 505) 346,
 tu [],
 fe [],
 tu [vs "e" 745],
 tu [],
 fs 98,
 co [vs "fold_default" 742,vs "fold_default" 743,vs "/claim/cut.py" 744,.int 268 0,.int 1 0,.int 0 0,.int 0 0,.int 3 0,.ref 348,.bool true,.int 181 0,.ref 349,.none,.ref 350,.ref 351,.ref 352,.int 746 0,.int 268 0,vs "/claim/cut.py" 747],
 fn 98 (vs "framerune.csfold" 505) 353,
 tu [],
 fe [],
 tu [vs "part" 752],
 tu [],
 fs 99,
 co [vs "text_part" 749,vs "text_part" 750,vs "/claim/cut.py" 751,.int 274 0,.int 1 0,.int 0 0,.int 0 0,.int 3 0,.ref 355,.bool true,.int 181 0,.ref 356,.none,.ref 357,.ref 358,.ref 359,.int 753 0,.int 274 0,vs "/claim/cut.py" 754],
 fn 99 (vs "framerune.csfold" 505) 360,
 tu [],
 fe [],
 tu [vs "e" 759,vs "parts" 760,vs "last" 761,vs "part" 762,vs "text" 763],
 tu [],
 fs 100,
 co [vs "fold_concat" 756,vs "fold_concat" 757,vs "/claim/cut.py" 758,.int 282 0,.int 1 0,.int 0 0,.int 0 0,.int 3 0,.ref 362,.bool true,.int 181 0,.ref 363,.none,.ref 364,.ref 365,.ref 366,.int 764 0,.int 282 0,vs "/claim/cut.py" 765],
 fn 100 (vs "framerune.csfold" 505) 367,
 tu [],
 fe [],
 tu [vs "e" 770,vs "code" 771],
 tu [],
 fs 101,
 co [vs "fold" 767,vs "fold" 768,vs "/claim/cut.py" 769,.int 299 0,.int 1 0,.int 0 0,.int 0 0,.int 3 0,.ref 369,.bool true,.int 181 0,.ref 370,.none,.ref 371,.ref 372,.ref 373,.int 772 0,.int 299 0,vs "/claim/cut.py" 773],
 fn 101 (vs "framerune.csfold" 505) 374,
 tu [],
 fe [],
 tu [vs "e" 778,vs "kids" 779,vs "turned" 780,vs "kid" 781],
 tu [],
 fs 102,
 co [vs "fold_all" 775,vs "fold_all" 776,vs "/claim/cut.py" 777,.int 316 0,.int 1 0,.int 0 0,.int 0 0,.int 3 0,.ref 376,.bool true,.int 181 0,.ref 377,.none,.ref 378,.ref 379,.ref 380,.int 782 0,.int 316 0,vs "/claim/cut.py" 783],
 fn 102 (vs "framerune.csfold" 505) 381,
 tu []]
noncomputable def og6(P:Params):List Obj:=[
 fe [],
 tu [vs "w" 794,vs "count" 795,vs "at" 796,vs "given" 797],
 tu [],
 fs 106,
 co [vs "_law_take" 791,vs "_law_take" 792,vs "/claim/cut.py" 793,.int 329 0,.int 2 0,.int 0 0,.int 0 0,.int 3 0,.ref 383,.bool true,.int 181 0,.ref 384,.none,.ref 385,.ref 386,.ref 387,.int 798 0,.int 329 0,vs "/claim/cut.py" 799],
 fn 106 (vs "law_xm0264_01" 785) 388,
 tu [],
 fe [],
 tu [vs "k" 804,vs "bits" 805,vs "low" 806],
 tu [],
 fs 107,
 co [vs "_law_span" 801,vs "_law_span" 802,vs "/claim/cut.py" 803,.int 334 0,.int 1 0,.int 0 0,.int 0 0,.int 3 0,.ref 390,.bool true,.int 181 0,.ref 391,.none,.ref 392,.ref 393,.ref 394,.int 807 0,.int 334 0,vs "/claim/cut.py" 808],
 fn 107 (vs "law_xm0264_01" 785) 395,
 tu [],
 fe [],
 tu [vs "w" 813,vs "k" 814,vs "edges" 815,vs "low" 816,vs "high" 817],
 tu [],
 fs 108,
 co [vs "_law_value" 810,vs "_law_value" 811,vs "/claim/cut.py" 812,.int 338 0,.int 2 0,.int 0 0,.int 0 0,.int 3 0,.ref 397,.bool true,.int 181 0,.ref 398,.none,.ref 399,.ref 400,.ref 401,.int 818 0,.int 338 0,vs "/claim/cut.py" 819],
 fn 108 (vs "law_xm0264_01" 785) 402,
 tu [],
 fe [],
 tu [vs "w" 824,vs "k" 825,vs "n" 826],
 tu [],
 fs 109,
 co [vs "_law_leaf" 821,vs "_law_leaf" 822,vs "/claim/cut.py" 823,.int 348 0,.int 2 0,.int 0 0,.int 0 0,.int 3 0,.ref 404,.bool true,.int 181 0,.ref 405,.none,.ref 406,.ref 407,.ref 408,.int 827 0,.int 348 0,vs "/claim/cut.py" 828],
 fn 109 (vs "law_xm0264_01" 785) 409,
 tu [],
 fe [],
 tu [vs "w" 833,vs "what" 834,vs "k" 835,vs "far" 836,vs "sign" 837],
 tu [],
 fs 110,
 co [vs "_law_number" 830,vs "_law_number" 831,vs "/claim/cut.py" 832,.int 359 0,.int 3 0,.int 0 0,.int 0 0,.int 3 0,.ref 411,.bool true,.int 181 0,.ref 412,.none,.ref 413,.ref 414,.ref 415,.int 838 0,.int 359 0,vs "/claim/cut.py" 839],
 fn 110 (vs "law_xm0264_01" 785) 416,
 tu [],
 fe [],
 tu [vs "w" 844,vs "what" 845,vs "n" 846,vs "far" 847],
 tu [],
 fs 111,
 co [vs "_law_truth" 841,vs "_law_truth" 842,vs "/claim/cut.py" 843,.int 371 0,.int 2 0,.int 0 0,.int 0 0,.int 3 0,.ref 418,.bool true,.int 181 0,.ref 419,.none,.ref 420,.ref 421,.ref 422,.int 848 0,.int 371 0,vs "/claim/cut.py" 849],
 fn 111 (vs "law_xm0264_01" 785) 423,
 tu [],
 fe [],
 tu [vs "w" 854,vs "what" 855,vs "k" 856,vs "n" 857,vs "parts" 858,vs "one" 859],
 tu [],
 fs 112,
 co [vs "_law_words" 851,vs "_law_words" 852,vs "/claim/cut.py" 853,.int 383 0,.int 3 0,.int 0 0,.int 0 0,.int 3 0,.ref 425,.bool true,.int 181 0,.ref 426,.none,.ref 427,.ref 428,.ref 429,.int 860 0,.int 383 0,vs "/claim/cut.py" 861],
 fn 112 (vs "law_xm0264_01" 785) 430,
 tu [],
 fe [],
 tu [vs "w" 866,vs "k" 867,vs "deep" 868,vs "zone" 869,vs "what" 870,vs "code" 871,vs "sign" 872,vs "kinds" 873,vs "parts" 874,vs "one" 875],
 tu [],
 fs 113,
 co [vs "_law_grow" 863,vs "_law_grow" 864,vs "/claim/cut.py" 865,.int 399 0,.int 4 0,.int 0 0,.int 0 0,.int 3 0,.ref 432,.bool true,.int 181 0,.ref 433,.none,.ref 434,.ref 435,.ref 436,.int 876 0,.int 399 0,vs "/claim/cut.py" 877],
 fn 113 (vs "law_xm0264_01" 785) 437,
 tu [],
 fe [],
 tu [vs "row" 882,vs "parts" 883,vs "checked" 884,vs "code" 885,vs "k" 886,vs "sign" 887],
 tu [],
 fs 114,
 co [vs "_law_put" 879,vs "_law_put" 880,vs "/claim/cut.py" 881,.int 420 0,.int 3 0,.int 0 0,.int 0 0,.int 3 0,.ref 439,.bool true,.int 181 0,.ref 440,.none,.ref 441,.ref 442,.ref 443,.int 888 0,.int 420 0,vs "/claim/cut.py" 889],
 fn 114 (vs "law_xm0264_01" 785) 444,
 tu [],
 fe []]
noncomputable def og7(P:Params):List Obj:=[
 tu [vs "e" 894],
 tu [],
 fs 115,
 co [vs "_law_still" 891,vs "_law_still" 892,vs "/claim/cut.py" 893,.int 437 0,.int 1 0,.int 0 0,.int 0 0,.int 3 0,.ref 446,.bool true,.int 181 0,.ref 447,.none,.ref 448,.ref 449,.ref 450,.int 895 0,.int 437 0,vs "/claim/cut.py" 896],
 fn 115 (vs "law_xm0264_01" 785) 451,
 tu [],
 fe [],
 fs 116,
 co [vs "_law_parts" 898,vs "_law_parts" 899,vs "/claim/cut.py" 900,.int 439 0,.int 2 0,.int 0 0,.int 0 0,.int 3 0,.ref 453,.bool true,.int 181 0,.ref 454,.none,.none,.none,.ref 455,.int 901 0,.int 439 0,vs "/claim/cut.py" 902],
 fn 116 (vs "law_xm0264_01" 785) 456,
 tu [],
 fe [],
 fs 117,
 co [vs "_law_whole" 904,vs "_law_whole" 905,vs "/claim/cut.py" 906,.int 454 0,.int 4 0,.int 0 0,.int 0 0,.int 3 0,.ref 458,.bool true,.int 181 0,.ref 459,.none,.none,.none,.ref 460,.int 907 0,.int 454 0,vs "/claim/cut.py" 908],
 fn 117 (vs "law_xm0264_01" 785) 461,
 tu [],
 fe [],
 tu [vs "sign" 913,vs "k" 914,vs "a" 915,vs "b" 916,vs "low" 917,vs "high" 918,vs "turns" 919,vs "n" 920,vs "rest" 921],
 tu [],
 fs 118,
 co [vs "_law_two" 910,vs "_law_two" 911,vs "/claim/cut.py" 912,.int 474 0,.int 4 0,.int 0 0,.int 0 0,.int 3 0,.ref 463,.bool true,.int 181 0,.ref 464,.none,.ref 465,.ref 466,.ref 467,.int 922 0,.int 474 0,vs "/claim/cut.py" 923],
 fn 118 (vs "law_xm0264_01" 785) 468,
 tu [],
 fe [],
 fs 119,
 co [vs "_law_meant" 925,vs "_law_meant" 926,vs "/claim/cut.py" 927,.int 497 0,.int 2 0,.int 0 0,.int 0 0,.int 3 0,.ref 470,.bool true,.int 181 0,.ref 471,.none,.none,.none,.ref 472,.int 928 0,.int 497 0,vs "/claim/cut.py" 929],
 fn 119 (vs "law_xm0264_01" 785) 473,
 tu [],
 fe [],
 tu [vs "e" 934,vs "out" 935,vs "x" 936,vs "inner" 937,vs "one" 938,vs "number" 939],
 tu [],
 fs 120,
 co [vs "_law_found" 931,vs "_law_found" 932,vs "/claim/cut.py" 933,.int 536 0,.int 1 0,.int 0 0,.int 0 0,.int 3 0,.ref 475,.bool true,.int 181 0,.ref 476,.none,.ref 477,.ref 478,.ref 479,.int 940 0,.int 536 0,vs "/claim/cut.py" 941],
 fn 120 (vs "law_xm0264_01" 785) 480,
 tu [],
 fe [],
 fs 121,
 co [vs "_law_unmarked" 943,vs "_law_unmarked" 944,vs "/claim/cut.py" 945,.int 545 0,.int 1 0,.int 0 0,.int 0 0,.int 3 0,.ref 482,.bool true,.int 181 0,.ref 483,.none,.none,.none,.ref 484,.int 946 0,.int 545 0,vs "/claim/cut.py" 947],
 fn 121 (vs "law_xm0264_01" 785) 485,
 tu [],
 fe [],
 fs 122,
 co [vs "_law_as_meant" 949,vs "_law_as_meant" 950,vs "/claim/cut.py" 951,.int 554 0,.int 2 0,.int 0 0,.int 0 0,.int 3 0,.ref 487,.bool true,.int 181 0,.ref 488,.none,.none,.none,.ref 489,.int 952 0,.int 554 0,vs "/claim/cut.py" 953],
 fn 122 (vs "law_xm0264_01" 785) 490,
 tu [],
 fe [],
 tu [vs "row" 958,vs "e" 959,vs "n" 960,vs "low" 961,vs "high" 962],
 tu [],
 fs 123,
 co [vs "_law_turned" 955,vs "_law_turned" 956,vs "/claim/cut.py" 957,.int 580 0,.int 3 0,.int 0 0,.int 0 0,.int 3 0,.ref 492,.bool true,.int 181 0,.ref 493,.none,.ref 494,.ref 495,.ref 496,.int 963 0,.int 580 0,vs "/claim/cut.py" 964],
 fn 123 (vs "law_xm0264_01" 785) 497,
 tu [],
 fe [],
 fs 124,
 co [vs "law" 966,vs "law" 967,vs "/claim/cut.py" 968,.int 585 0,.int 1 0,.int 0 0,.int 0 0,.int 3 0,.ref 499,.bool true,.int 181 0,.ref 500,.none,.none,.none,.ref 501,.int 969 0,.int 585 0,vs "/claim/cut.py" 970],
 fn 124 (vs "law_xm0264_01" 785) 502]
noncomputable def objsL(P:Params):List Obj:=og0 P++(og1 P++(og2 P++(og3 P++(og4 P++(og5 P++(og6 P++(og7 P)))))))
noncomputable def treeOf(l:List Obj):BT:=(l.foldl (λ(t:BT×Nat) o=>(t.1.ins t.2 o,t.2+1)) (BT.nil,0)).1
noncomputable def topRunX(st:SharedT->Thread->Option (SharedT×Thread))(ok:Thread->Bool):Nat->SharedT->Thread->Option SharedT
 |0,_,_=>none
 |n+1,s,t=>match through t with
  |true=>some s
  |false=>match ok t with
   |false=>none
   |true=>match st s t with
    |some r=>topRunX st ok n r.1 r.2
    |none=>none
noncomputable def stA(P:Params)(os:OsState):SharedT:=⟨treeOf (boot_heap P).objs.toList,11,lifeB,Array.mk [],boot_drawn,boot_toks,os⟩
noncomputable def stZ(P:Params)(os:OsState):SharedT:=⟨treeOf (objsL P),504,lifeB,Array.mk [],boot_drawn,972,os⟩
theorem runF(w:World)(os:OsState):topRunX (PySem.W.Fast.tw10156331382660048174 (PySem.W.Fast.tw11892475500146522536 treeTable) pw (w.withFollow "special-get-raises" false)) (PySem.W.Fast.tw6613529449190102663 11 (some (.ref 6))) 8000 (stA (w.withFollow "special-get-raises" false).params os) (topStub pw)=some (stZ (w.withFollow "special-get-raises" false).params os):=by kernel_rfl
theorem runT(w:World)(os:OsState):topRunX (PySem.W.Fast.tw10156331382660048174 (PySem.W.Fast.tw11892475500146522536 treeTable) pw (w.withFollow "special-get-raises" true)) (PySem.W.Fast.tw6613529449190102663 11 (some (.ref 6))) 8000 (stA (w.withFollow "special-get-raises" true).params os) (topStub pw)=some (stZ (w.withFollow "special-get-raises" true).params os):=by kernel_rfl
noncomputable def heapL(P:Params):Heap:=⟨⟨objsL P⟩,lifeB⟩
noncomputable def sZ(P:Params)(os:OsState):Shared:=⟨heapL P,Array.mk [],boot_drawn,972,os⟩
noncomputable def keepL:List Nat:=(List.range 125).filter λi=>!([0,3,22,67,103].contains i)
noncomputable def qv:Program:=view pw keepL
noncomputable def looseL:List Str:=[Str.ofString "INT_RANGES",Str.ofString "KID_PLACES"]
noncomputable def fragS(s:Shared):Frag:=(List.range 170).filterMap λa=>(s.heap.get? a).map λo=>(a,o)
noncomputable def XtL(s:Shared):Bool:=xlAt qv [] s&&recOk [] s
noncomputable def YfL(s:Shared):Bool:=headChk (fragS s)
noncomputable def fdAt(k:Nat):DefRec:=match bAt k with
 |.FunctionDef n a b _ _ _ sc _ _ p=>⟨n,a,b,sc,p⟩
 |_=>⟨default,default,default,default,default⟩
noncomputable def nmAt(k:Nat):Str:=match bAt k with
 |.Assign [.Name y _] _ _=>y
 |.AnnAssign (.Name y _) _ _ _ _=>y
 |_=>default
noncomputable def RL:List DefRec:=([20,21,64,65,66]++(List.range' 72 31++List.range' 106 19)).map fdAt
noncomputable def LN:List Str:=(List.range' 4 15++(List.range' 23 40++[68,69,70,104,105])).map nmAt
theorem rl:recsOf qv=RL:=by rw[Fast.te3399658132070893891];kernel_rfl
theorem ln:(litsOf qv).map (·.1)=LN:=by rw[Fast.te7409074990110511671];kernel_rfl
theorem wl:wlitsOf qv=[(nmAt 71,(theConstW qv (nmAt 71)).getD .none)]:=by rw[Fast.te11925523677476243305];kernel_rfl
theorem wd:wdefsOf qv=[]:=by rw[Fast.te694669760492028198];kernel_rfl
theorem lw:looseW qv looseL=looseL++[nmAt 71]:=by
 unfold looseW heldW
 rw[wd,wl,Fast.te4354255287344443571,Fast.te1571739515156823405];kernel_rfl
theorem k0(P:Params):absHeap (treeOf (objsL P)) 504 lifeB=heapL P:=by kernel_rfl
theorem k1(P:Params):(staticsOk (importedModules pw.main.body) (boot_heap P) (heapL P)&&(namesBound pw (heapL P)&&laidKept (boot_heap P) (heapL P)))=true:=by kernel_rfl
theorem k2(P:Params)(os:OsState):YfL (sZ P os)=true:=by kernel_rfl
theorem k3(P:Params)(os:OsState):XtL (sZ P os)=true:=by kernel_rfl
theorem k4(P:Params):(heapL P).bltView=bltViewBooted:=by kernel_rfl
theorem k5(P:Params):(heapL P).accountedOkI (importedModules pw.main.body)=true:=by kernel_rfl
theorem k6(P:Params)(os:OsState):clsSeenW qv looseL (sZ P os)=clsGoodW qv looseL:=by kernel_rfl
theorem k7(P:Params)(os:OsState):wideSeen qv (sZ P os)=wideGood qv:=by
 unfold wideSeen wideGood
 rw[wd,wl];kernel_rfl
theorem k8(P:Params)(os:OsState):plainSeenD qv looseL (sZ P os)=plainGoodD qv looseL:=by kernel_rfl
theorem k9(P:Params)(os:OsState):plainSeenE qv (looseW qv looseL) (sZ P os)=plainGoodE qv (looseW qv looseL):=by
 rw[lw];kernel_rfl
theorem k10(P:Params)(os:OsState):pinSeenD qv (drecsOf qv) (sZ P os)=pinGoodD (drecsOf qv):=by kernel_rfl
theorem k11(P:Params)(os:OsState):seen ((recsOf qv).map (·.name)) (ownsOf qv) [] (sZ P os)=expectedOf qv:=by
 unfold expectedOf
 rw[rl,Fast.te5160383126252970620,Fast.te5991557255702980513];kernel_rfl
theorem k12(P:Params)(os:OsState):tabsOk qv (sZ P os)=true:=by
 unfold tabsOk
 rw[rl,Fast.te5930804224584009831,Fast.te5244371056499926238,Fast.te2578726214315757710,Fast.te2458874890965802552,Fast.te9649274521512697073];kernel_rfl
theorem k13(P:Params):tablesOk qv (heapL P)=true:=by kernel_rfl
theorem k14(P:Params):(heapL P).keysOk (looseW qv looseL) ((recsOf qv).map (·.name)) ((litsOf qv).map (·.1)) ((clssOf qv (looseW qv looseL)).map (·.name))=true:=by
 rw[rl,ln,lw,Fast.te10880121769531294198,Fast.te13664370479719496447];kernel_rfl
theorem k15(P:Params):((heapL P).isNs mainGlobals&&(heapL P).isNs builtinsNs)=true:=by kernel_rfl
theorem topRunX_of{tb:String->Option Builtin}{p:Program}{w:World}{n₀:Nat}{ann:Option Value}:∀{n:Nat}{s s':SharedT}{t:Thread},topRunX (stepT (denote tb) p w) (stepOk n₀ ann) n s t=some s'->topRun tb p w n₀ ann n s.abs t=some s'.abs
 |0,_,_,_,h=>nomatch h
 |n+1,s,s',t,h=>by
  unfold topRunX at h
  unfold topRun
  cases he:through t with
  |true=>rw[he]at h;cases h;rfl
  |false=>
   rw[he]at h
   cases hk:stepOk n₀ ann t with
   |false=>rw[hk]at h;cases h
   |true=>
    rw[hk]at h
    cases hs:stepT (denote tb) p w s t with
    |none=>rw[hs]at h;cases h
    |some r=>obtain⟨s₂,t₂⟩:=r;rw[hs]at h;rw[stepT_spec hs];exact topRunX_of h
set_option maxHeartbeats 4000000
theorem run_half(b:Bool)(w:World)(os:OsState):topRunX (stepT (denote treeTable) pw (w.withFollow "special-get-raises" b)) (stepOk 11 (some (.ref 6))) 8000 (stA (w.withFollow "special-get-raises" b).params os) (topStub pw)=some (stZ (w.withFollow "special-get-raises" b).params os):=by
 rw[PySem.W.Fast.te10156331382660048174,PySem.W.Fast.te11892475500146522536,PySem.W.Fast.te6613529449190102663]
 cases b
 ·exact runF w os
 ·exact runT w os
theorem absA(P:Params):absHeap (treeOf (boot_heap P).objs.toList) 11 lifeB=boot_heap P:=by kernel_rfl
theorem absA'(P:Params)(os:OsState):(stA P os).abs=⟨boot_heap P,Array.mk [],boot_drawn,boot_toks,os⟩:=by kernel_rfl
theorem absZ'(P:Params)(os:OsState):(stZ P os).abs=⟨heapL P,Array.mk [],boot_drawn,972,os⟩:=by kernel_rfl
theorem run_ok'(w:World)(os:OsState):topRun treeTable pw w 11 (some (.ref 6)) 8000 ⟨boot_heap w.params,Array.mk [],boot_drawn,boot_toks,os⟩ (topStub pw)=some ⟨heapL w.params,Array.mk [],boot_drawn,972,os⟩:=by
 have r:=run_half (w.params.followText "special-get-raises") w os
 rw[World.withFollow_self w "special-get-raises"]at r
 have r':=topRunX_of r
 rw[absA' w.params os,absZ' w.params os]at r'
 exact r'
theorem open_ok:opening pw=plainProg pw.main.scope.names:=by kernel_rfl
theorem fence_ok(s:Shared):fenceModules? pw s=some s:=by kernel_rfl
theorem size_ok(P:Params):((boot_heap P).isNs mainGlobals&&(Array.mk []:Array GenState).size==0,(boot_heap P).objs.size,(boot_heap P).nsMap mainGlobals "__annotations__")=(true,11,some (.ref 6)):=by kernel_rfl
theorem looks_of{q p:Program}{loose:List Str}{Xt Yf:Shared->Bool}{mods:List Str}{H₀:Heap}{s:Shared}(a:(staticsOk mods H₀ s.heap&&(namesBound p s.heap&&laidKept H₀ s.heap))=true)(g:gensDone s=true)(g0:(s.gens.size==0)=true)(y:Yf s=true)(x:Xt s=true)
  (b:s.heap.bltView=bltViewBooted)(c:s.heap.accountedOkI mods=true)(k6:clsSeenW q loose s=clsGoodW q loose)(k7:wideSeen q s=wideGood q)(k8:plainSeenD q loose s=plainGoodD q loose)(k9:plainSeenE q (looseW q loose) s=plainGoodE q (looseW q loose))(k10:pinSeenD q (drecsOf q) s=pinGoodD (drecsOf q))
  (k11:seen ((recsOf q).map (·.name)) (ownsOf q) [] {s with gens:=#[]}=expectedOf q)(k12:tabsOk q s=true)(k13:tablesOk q s.heap=true)(k14:s.heap.keysOk (looseW q loose) ((recsOf q).map (·.name)) ((litsOf q).map (·.1)) ((clssOf q (looseW q loose)).map (·.name))=true)(n:(s.heap.isNs mainGlobals&&s.heap.isNs builtinsNs)=true):
  ((staticsOk mods H₀ s.heap&&namesBound p s.heap&&gensDone s&&laidKept H₀ s.heap),openSeen q loose mods Xt true s,Yf s)=(true,openGood q loose,true):=by
 have a':=Bool.and_eq_true_iff.mp a
 have a2:=Bool.and_eq_true_iff.mp a'.2
 have n':=Bool.and_eq_true_iff.mp n
 have x3:=look_both (look_both (look_both (look_both (look_both (look_both k14 c) n'.1) n'.2) k13) x) g0
 exact Prod.ext (look_both (look_both (look_both a'.1 a2.1) g) a2.2) (Prod.ext (Prod.ext k11 (Prod.ext b (Prod.ext x3 (Prod.ext k12 (Prod.ext k10 (Prod.ext k9 (Prod.ext k8 (Prod.ext k7 k6)))))))) y)
theorem gens_ok(P:Params)(os:OsState):gensDone (sZ P os)=true:=by kernel_rfl
theorem looks_ok(w:World)(os:OsState):((staticsOk (importedModules pw.main.body) (boot_heap w.params) (sZ w.params os).heap&&namesBound pw (sZ w.params os).heap&&gensDone (sZ w.params os)&&laidKept (boot_heap w.params) (sZ w.params os).heap),
  openSeen qv looseL (importedModules pw.main.body) XtL true (sZ w.params os),YfL (sZ w.params os))=(true,openGood qv looseL,true):=
 looks_of (s:=sZ w.params os) (k1 w.params) (gens_ok _ _) rfl (k2 _ _) (k3 _ _) (k4 _) (k5 _) (k6 _ _) (k7 _ _) (k8 _ _) (k9 _ _) (k10 _ _) (k11 _ _) (k12 _ _) (k13 _) (k14 _) (k15 _)
theorem left_head:LeftO pw qv looseL XtL YfL (λ_=>true) 8000:=
 LeftO.of_pieces (H₀:=boot_heap) (H₁:=heapL) (gs₀:=Array.mk []) (gs₁:=Array.mk []) (d₀:=boot_drawn) (d₁:=boot_drawn) (k₀:=boot_toks) (k₁:=972) (m₀:=11) (ann:=some (.ref 6)) (M:=8000)
  (boot_open open_ok rfl fence_ok) (λw=>size_ok w.params) run_ok' rfl (λw=>funext λos=>looks_ok w os)
noncomputable def YPL(_:World)(h:Heap):Prop:=∃K:Frag,K.In h/\headChk K=true
theorem frag_in(s:Shared):(fragS s).In s.heap:=by
 intro a o e
 unfold fragS at e
 generalize List.range 170=l at e
 induction l with
 |nil=>exact nomatch e
 |cons x r ih=>
  rw[List.filterMap_cons]at e
  cases hx:s.heap.get? x with
  |none=>rw[hx]at e;exact ih e
  |some o'=>
   rw[hx]at e
   have e':(match a==x with|true=>some o'|false=>List.lookup a (r.filterMap λa=>(s.heap.get? a).map λo=>(a,o)))=some o:=e
   cases q:a==x with
   |true=>rw[q]at e';rw[beq_iff_eq.mp q,hx];exact e'
   |false=>rw[q]at e';exact ih e'
noncomputable def stL:PySem.Stmt:=pw.main.body.getLastD (.Pass default)
noncomputable abbrev lawArgs:Arguments:={posonlyargs:=[],args:=[{arg:=Str.ofString "script",annotation:=none,pos:={line:=585,col:=8,endLine:=585,endCol:=14}}],vararg:=none,kwonlyargs:=[],kw_defaults:=[],kwarg:=none,defaults:=[]}
noncomputable def lawBody:List PySem.Stmt:=match stL with
 |.FunctionDef _ _ b _ _ _ _ _ _ _=>b
 |_=>[]
noncomputable abbrev lawScope:Scope:={kind:=ScopeKind.function,names:=[(Str.ofString "script",NameKind.local),(Str.ofString "given",NameKind.local),(Str.ofString "w",NameKind.cell),(Str.ofString "k",NameKind.local),(Str.ofString "rows",NameKind.local),(Str.ofString "got",NameKind.local),(Str.ofString "stands",NameKind.local),(Str.ofString "told",NameKind.local),(Str.ofString "marks",NameKind.local),(Str.ofString "end",NameKind.local),(Str.ofString "picks",NameKind.local),(Str.ofString "len",NameKind.globalImplicit),(Str.ofString "I4",NameKind.globalImplicit),(Str.ofString "BOOL",NameKind.globalImplicit),(Str.ofString "STRING",NameKind.globalImplicit),(Str.ofString "U4",NameKind.globalImplicit),(Str.ofString "I8",NameKind.globalImplicit),(Str.ofString "U8",NameKind.globalImplicit),(Str.ofString "_law_take",NameKind.globalImplicit),(Str.ofString "_law_grow",NameKind.globalImplicit),(Str.ofString "_law_parts",NameKind.globalImplicit),(Str.ofString "_law_as_meant",NameKind.globalImplicit),(Str.ofString "range",NameKind.globalImplicit),(Str.ofString "fold_all",NameKind.globalImplicit),(Str.ofString "_law_whole",NameKind.globalImplicit),(Str.ofString "_law_found",NameKind.globalImplicit)],isGenerator:=false,isCoroutine:=false,more:=[(Str.ofString "fast",Const.str (Str.ofString "script")),(Str.ofString "fast",Const.str (Str.ofString "n")),(Str.ofString "fast",Const.str (Str.ofString "given")),(Str.ofString "fast",Const.str (Str.ofString "w")),(Str.ofString "fast",Const.str (Str.ofString "k")),(Str.ofString "fast",Const.str (Str.ofString "rows")),(Str.ofString "fast",Const.str (Str.ofString "got")),(Str.ofString "fast",Const.str (Str.ofString "stands")),(Str.ofString "fast",Const.str (Str.ofString "told")),(Str.ofString "fast",Const.str (Str.ofString "marks")),(Str.ofString "fast",Const.str (Str.ofString "end")),(Str.ofString "fast",Const.str (Str.ofString "at")),(Str.ofString "fast",Const.str (Str.ofString "picks")),(Str.ofString "fast",Const.str (Str.ofString "way")),(Str.ofString "fast",Const.str (Str.ofString "number"))]}
noncomputable def lawPos:Pos:=match stL with
 |.FunctionDef _ _ _ _ _ _ _ _ _ p=>p
 |_=>default
noncomputable abbrev lawR:DefRec:=⟨Str.ofString "law",lawArgs,lawBody,lawScope,lawPos⟩
theorem def_ok:defOf qv (Str.ofString "law")=some (lawR,[]):=by kernel_rfl
theorem the_ok:pw.theDef (Str.ofString "law")=some (lawArgs,lawBody,lawScope):=by kernel_rfl
theorem kw_ok:kwWritten? lawArgs.kwonlyargs lawArgs.kw_defaults=some []:=by kernel_rfl
theorem ok_ok:(chainsOk qv&&opensWell pw&&(frees PySem.Challenge.rw_xm0264_01.row.toRowW&&PySem.Challenge.rw_xm0264_01.row.within.isEmpty))=true:=by kernel_rfl
theorem bare_ok:pw.bare:=⟨rfl,rfl,rfl,rfl,rfl,by kernel_rfl⟩
theorem head(said:OpenLaw.wellSaid PySem.Challenge.rw_xm0264_01=true)(call:WalkO qv looseL (XL qv []) YPL PySem.Challenge.rw_xm0264_01.row.toRowW lawR [] λf vs=>PySem.call f vs):PySem.Challenge.rw_xm0264_01.Holds:=by
 refine holds_law said λs1=>?_
 refine holds_open (r:=PySem.Challenge.rw_xm0264_01.row) (q:=qv) (loose:=looseL) (Xt:=XtL) (XP:=XL qv []) (Yf:=YfL) (Ya:=λ_=>true) (YP:=YPL) (N:=8000) (d:=lawR) (kwd:=[]) left_head
  (λw s e=>⟨fragS s,frag_in s,e⟩) (λw h h' y k=>y.elim λK q=>⟨K,q.1.keeps k,q.2⟩) (λs e=>xl_of s (Bool.and_eq_true_iff.mp e).1) XL.keeps def_ok the_ok kw_ok (λs e=>recFacts_of (Bool.and_eq_true_iff.mp e).2) rfl s1 ok_ok bare_ok ?hw call
 w_witness2
noncomputable abbrev rwL:OpenLaw:=PySem.Challenge.rw_xm0264_01
theorem s1a:(sreFenced pw.main&&((moduleNames pw.main.body).isEmpty||lookedIntoSs (moduleNames pw.main.body) pw.main.body))=true:=by kernel_rfl
theorem s1b:namesResolve pw=true:=by rw[Fast.te8377067652309620493];kernel_rfl
theorem s1c:(pw.boundNames.all λn=>!worldNames.contains n)=true:=by kernel_rfl
theorem s2:noRoadLSs {strict:=!(importedModules pw.main.body).all cThrough.contains,foot:=none,bare:=List.filter (readsOut pw pw.main.body) [Str.ofString "vars",Str.ofString "dir",Str.ofString "locals"]} pw.main.body=true:=by kernel_rfl
theorem s3:(namesMeet pw pw.main.body λx n=>attrL n)=true:=by rw[Fast.te17119622794617984870,Fast.te17868728402115742887];kernel_rfl
theorem s4:looksOpen pw=true:=look_both (look_both (look_both (look_both s1a s1b) s1c) s2) s3
theorem s5:noRoadLSs {strict:=true,foot:=some rwL.bound',writes:=rwL.writes,may:=rwL.may} rwL.footing=true:=by rw[Fast.te8326940854005059898];kernel_rfl
theorem s6:defStands rwL.about rwL.above=true:=by kernel_rfl
theorem s7:rwL.namesIt=true:=by kernel_rfl
theorem s8:(rwL.bound'.all λn=>!builtinNamed n||rwL.about==[n]||!rwL.reads n)=true:=by rw[Fast.te797321630700447069,Fast.te6984425678791042302];kernel_rfl
theorem s9:(namesMeet rwL.prog rwL.above λx n=>!rwL.own.contains n)=true:=by rw[Fast.te17119622794617984870];kernel_rfl
theorem s10:(namesMeet rwL.prog rwL.footing λsc n=>sc.kind==ScopeKind.module||List.lookup n sc.names !=some NameKind.globalExplicit)=true:=by kernel_rfl
theorem s11:(namesMeet rwL.prog rwL.footing λsc n=>
        (![Str.ofString "type",Str.ofString "isinstance",Str.ofString "issubclass",Str.ofString "getattr",
              Str.ofString "hasattr"].contains
            n||
          List.lookup n sc.names==some NameKind.globalImplicit)&&
         (rwL.may !=some n||sc.kind==ScopeKind.module||
          List.lookup n sc.names==some NameKind.globalImplicit))=true:=by rw[Fast.te17119622794617984870];kernel_rfl
theorem s12:(rwL.own.all λn=>!builtinNamed n)=true:=by kernel_rfl
theorem s13:noClassBlock rwL.prog rwL.footing=true:=by kernel_rfl
theorem s14:(rwL.own.contains rwL.name&&rwL.own.eraseDups.length==rwL.own.length)=true:=by kernel_rfl
theorem s4':looksOpen PySem.Challenge.rw_xm0264_01.row.prog=true:=s4
theorem partS:PySem.Challenge.rw_xm0264_01.row.partSaid=true:=by
 unfold OpenRow.partSaid
 repeat' (with_reducible refine look_both ?_ ?_)
 all_goals first|(with_reducible exact s4')|kernel_rfl
theorem rowS:PySem.Challenge.rw_xm0264_01.row.wellSaid=true:=look_both (look_both partS (by kernel_rfl)) (by kernel_rfl)
theorem said_ok:OpenLaw.wellSaid PySem.Challenge.rw_xm0264_01=true:=by
 unfold OpenLaw.wellSaid
 repeat' (with_reducible refine look_both ?_ ?_)
 all_goals first|(with_reducible exact rowS)|(with_reducible exact s5)|(with_reducible exact s6)|(with_reducible exact s7)|(with_reducible exact s8)|(with_reducible exact s9)|(with_reducible exact s10)|(with_reducible exact s11)|(with_reducible exact s12)|(with_reducible exact s13)|(trace_state;kernel_rfl)
theorem chk_ok:ChkAll (recsOf qv):=by rw[rl];constructor<;>kernel_rfl
theorem hh_ok:fnHead flaw lawArgs lawScope=true:=by kernel_rfl
theorem plainI(ns:List Int)(h:ns.length<=63):∃ρ' σ',evSs (run fns fuelN) (lawSlots ns) flaw.body none=some ((.ret (.bool true),ρ'),σ'):=plain0 ns h
set_option maxHeartbeats 8000000 in
theorem XX(said:OpenLaw.wellSaid PySem.Challenge.rw_xm0264_01=true):PySem.Challenge.rw_xm0264_01.Holds:=head said (by
 w_on
 intro w s₀ s₁ mg mb G Y fa o pm cd doc dV kV ho hd hcd hD hmg hg args vals as hpre hlay hrd hwl hlo
 obtain⟨K,KX,hK1⟩:=Y
 have X:=G.X.1
 have V:=G.X.2
 refine Ground.open G ?_
 intro T B D TE TW
 obtain⟨_,_,M⟩:=bmod_of_top T
 have TA:=at_of_top T
 try (obtain⟨_,_,he,B0⟩:=based_of_top T rfl hmg ho hd;have he':cd=_:=he;subst he';clear he)
 clear hmg
 wrow_args hpre hlay hrd hwl hlo
 all_goals
  first|refine callC_kw (enter_call ?_)|refine enter_call ?_|refine callC_kw (enter_callW ?_)|refine enter_callW ?_
  w_top on
  try refine codeAny_mono ?_ (λ_ _ g=>GoodW.toG g)
  have K0:=below_caller (Top.heap T)
  w_call any ho hd hcd hD T F
  clear hd TA
  k_drop
 rename_i wx rx N0 X0
 refine law_fin (params:=lawArgs) (body:=lawBody) (scope:=lawScope) (by assumption) KX hK1 chk_ok (hir:=rfl) hh_ok ?hb ?hc (by assumption) (by assumption) (by omega) F N0 X0 (cx:=Str.ofString "w") ?hcs ?hloc (plainI _ (by omega)) ?hQ
 case hb=>kernel_rfl
 case hc=>kernel_rfl
 case hloc=>kernel_rfl
 case hcs=>kernel_rfl
 case hQ=>
  intro h tk hk
  refine⟨.inl ⟨.bool true,.bool true,[],rfl,?_,.bool true,?_,?_⟩,hk,rfl,by assumption⟩
  ·intro cls;rfl
  ·kernel_rfl
  ·exactλ_=>⟨List.nodup_nil,λa ha=>by cases ha⟩)
end Hd
end
end Mine
theorem PySem.Challenge.cw_xm0264_01_holds : PySem.Challenge.rw_xm0264_01.Holds :=
 Mine.Hd.XX Mine.Hd.said_ok
