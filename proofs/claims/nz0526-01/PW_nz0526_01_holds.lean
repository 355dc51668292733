import PyProof.Rows.All
import Wide.All
import OpenK.AllK
import Wide.FinOn
import KE.KLam
import KE.KDictAnyGet
import KE.KExtendNil
import KE.KIsNot
import KE.KItem
import KE.KListMore
import KE.KPopAny
import KE.KTab
import PyProof.DictCompW
import PyProof.DictWalks
import PyProof.ExcAttrAll.Exception
import PyProof.ExcBaseAll.Exception
import PyProof.ExcClass3
import PyProof.InstStoreFacts
import PyProof.IsiHeapPairs
import PyProof.IsiPairs
import PyProof.RangeFor
import PyProof.Rows.PlainEq
import PyProof.Rows.TupAssign
import PySem.Challenge.RW_nz0526_01
set_option Elab.async false
set_option genSizeOf false
set_option genCtorIdx false
set_option bootstrap.genMatcherCode false
set_option compiler.extract_closed false
set_option tactic.hygienic false
set_option maxRecDepth 100000
set_option maxHeartbeats 8000000
set_option linter.unusedSimpArgs false
set_option linter.unusedVariables false
namespace Mine
section
set_option genCtorIdx true in
inductive V where
 | none | bool (b:Bool) | int (i:Int) | w (i:Nat) | dec (i:Int) | ref (a:Nat) | ext
 deriving DecidableEq
set_option genCtorIdx true in
inductive Dx where | null | vector
 deriving DecidableEq
set_option genCtorIdx true in
inductive Af where
 | list (xs:List V)
 | tup (xs:List V)
 | dictW (kvs:List (Nat×V))
 | dictP (kvs:List (Nat×V))
 | dictI (kvs:List (Int×V))
 | inst (c:Dx) (fs:List (Nat×V))
 | tab
 deriving DecidableEq
set_option genInjectivity false
noncomputable abbrev MH:=List Af
inductive R(α:Type) where
 | ok (a:α) (H:MH)
 | exc (m:Nat) (H:MH)
 | bad
noncomputable def R.ctorIdx{α:Type}(x:R α):Nat:= @R.casesOn α (fun J=>Nat) x (fun J J=>0) (fun J J=>1) 2
noncomputable abbrev M(α:Type):=MH->R α
noncomputable def ret{α:Type}(a:α):M α:=fun H=> .ok a H
noncomputable def bad{α:Type}:M α:=fun J=> .bad
noncomputable def Xf{α:Type}(m:Nat):M α:=fun H=> .exc m H
noncomputable def bnd{α β:Type}(m:M α)(f:α->M β):M β:=fun H=>match m H with
 | .ok a H'=>f a H'
 | .exc e H'=> .exc e H'
 | .bad=> .bad
noncomputable def alloc(c:Af):M V:=fun H=> .ok (.ref H.length) (H++[c])
section
variable{α:Type}
noncomputable def vB(v:V)(d:α)(k:Bool->α):α:= @V.casesOn (fun J=>α) v d k (fun J=>d) (fun J=>d) (fun J=>d) (fun J=>d) d
noncomputable def vI(v:V)(d:α)(k:Int->α):α:= @V.casesOn (fun J=>α) v d (fun J=>d) k (fun J=>d) (fun J=>d) (fun J=>d) d
noncomputable def vW(v:V)(d:α)(k:Nat->α):α:= @V.casesOn (fun J=>α) v d (fun J=>d) (fun J=>d) k (fun J=>d) (fun J=>d) d
noncomputable def vR(v:V)(d:α)(k:Nat->α):α:= @V.casesOn (fun J=>α) v d (fun J=>d) (fun J=>d) (fun J=>d) (fun J=>d) k d
noncomputable def cL(c:Af)(d:α)(k:List V->α):α:= @Af.casesOn (fun J=>α) c k (fun J=>d) (fun J=>d) (fun J=>d) (fun J=>d) (fun J J=>d) d
noncomputable def cT(c:Af)(d:α)(k:List V->α):α:= @Af.casesOn (fun J=>α) c (fun J=>d) k (fun J=>d) (fun J=>d) (fun J=>d) (fun J J=>d) d
noncomputable def cD(c:Af)(d:α)(k:List (Nat×V)->α):α:= @Af.casesOn (fun J=>α) c (fun J=>d) (fun J=>d) k (fun J=>d) (fun J=>d) (fun J J=>d) d
noncomputable def cN(c:Af)(d:α)(k:Dx->List (Nat×V)->α):α:= @Af.casesOn (fun J=>α) c (fun J=>d) (fun J=>d) (fun J=>d) (fun J=>d) (fun J=>d) k d
end
noncomputable def Cp{α:Type}:Option α->M α
 | some a=>ret a
 | Option.none=>bad
noncomputable def B4(v:V):M Af:=vR v bad fun a H=>Cp H[a]? H
noncomputable def Jw{α:Type}(v:V)(k:Nat->Af->M α):M α:=vR v bad fun a=>bnd (B4 (.ref a)) (k a)
noncomputable def D6(v:V)(c:Af):M Unit:=vR v bad fun a H=> .ok () (H.set a c)
mutual
inductive U3 where | add | sub | mul | mod | fdiv
inductive hJ where | z
end
mutual
inductive UV where | eq | ne | lt | le | gt | ge | isin | notin
inductive gV where | z
end
mutual
inductive Ty where | str | int | list
inductive iC where | z
end
noncomputable def oC(o:Option Af)(k:Af->Bool):Bool:= @Option.casesOn _ (fun J=>Bool) o false k
noncomputable def YW(g:V->V->Bool)(x y:List (Nat×V)):Bool:= @List.casesOn _ (fun J=>Bool) x y.isEmpty fun p r=> @List.casesOn _ (fun J=>Bool) y false fun q t=>r.isEmpty&&t.isEmpty&&(p.1==q.1&&g p.2 q.2)
noncomputable def Tj(f:List V->List V->Bool)(g:V->V->Bool)(c d:Af):Bool:= @Af.casesOn (fun J=>Bool) c (fun x=>cL d false (f x)) (fun x=>cT d false (f x)) (fun x=>cD d false (YW g x)) (fun J=>false) (fun J=>false) (fun J J=>false) false
mutual
noncomputable def Kb:Nat->MH->V->V->Bool
 | 0,_,_,_=>false
 | n+1,H,a,b=> @V.casesOn (fun J=>Bool) a (@V.casesOn (fun J=>Bool) b true (fun J=>false) (fun J=>false) (fun J=>false) (fun J=>false) (fun J=>false) false)
  (fun x=>vB b false fun y=>x==y) (fun x=>vI b false fun y=>x==y) (fun x=>vW b false fun y=>x==y) (fun x=> @V.casesOn (fun J=>Bool) b false (fun J=>false) (fun J=>false) (fun J=>false) (fun y=>x==y) (fun J=>false) false)
  (fun x=>vR b false fun y=>oC H[x]? fun c=>oC H[y]? fun d=>Tj (JI n H) (Kb n H) c d) false
noncomputable def JI:Nat->MH->List V->List V->Bool
 | 0,_,_,_=>false
 | n+1,H,x,y=> @List.casesOn _ (fun J=>Bool) x y.isEmpty fun a r=> @List.casesOn _ (fun J=>Bool) y false fun b q=>Kb n H a b&&JI n H r q
end
noncomputable def IR:Nat:=64
noncomputable def ZM(c:Af):Bool:= @Af.casesOn (fun J=>Bool) c (fun J=>true) (fun J=>true) (fun J=>false) (fun J=>false) (fun J=>false) (fun J J=>false) false
noncomputable def Jz(b t:Bool):Option Bool:= @Bool.casesOn (fun J=>Option Bool) b none (some t)
noncomputable def Wf(c d:Af):Option Bool:=cL c none fun x=>cL d none fun y=>Jz (x.isEmpty||y.isEmpty) (x.isEmpty&&y.isEmpty)
noncomputable def aR(a b:Option Bool):Option Bool:= @Option.casesOn _ (fun J=>Option Bool) a b some
noncomputable def Tb(H:MH)(a b:V):Option Bool:= @V.casesOn (fun J=>Option Bool) a
 (@V.casesOn (fun J=>Option Bool) b (some true) (fun J=>none) (fun J=>none) (fun J=>some false) (fun J=>none) (fun J=>none) none)
 (fun J=>none)
 (fun x=> @V.casesOn (fun J=>Option Bool) b none (fun J=>none) (fun y=>some (x==y)) (fun J=>some false) (fun J=>none) (fun J=>none) none)
 (fun x=> @V.casesOn (fun J=>Option Bool) b (some false) (fun J=>none) (fun J=>some false) (fun y=>some (x==y)) (fun J=>none) (fun J=>none) none)
 (fun x=> @V.casesOn (fun J=>Option Bool) b none (fun J=>none) (fun J=>none) (fun J=>none) (fun y=>Jz (decide (x=y)) true) (fun J=>none) none)
 (fun x=> @V.casesOn (fun J=>Option Bool) b none (fun J=>none) (fun J=>none) (fun J=>Jz (oC H[x]? ZM) false) (fun J=>none)
  (fun y=>aR (@Option.casesOn _ (fun J=>Option Bool) H[x]? none fun c=> @Option.casesOn _ (fun J=>Option Bool) H[y]? none fun d=>Wf c d) (Jz (Kb IR H a b) true)) none)
 none
noncomputable def wn:V->Bool
 | .w _=>true
 | .none=>true
 | _=>false
noncomputable def J9(k:Nat)(y:V):Bool:=decide (y=.w k)
noncomputable def Dr(k:Nat):List (Nat×V)->Option V
 | []=>Option.none
 | p::r=>if p.1=k then some p.2 else Dr k r
noncomputable def Fi(k:Int):List (Int×V)->Option V
 | []=>Option.none
 | p::r=>if p.1=k then some p.2 else Fi k r
noncomputable def EX(k:Nat)(v:V):List (Nat×V)->List (Nat×V)
 | []=>[(k,v)]
 | p::r=>if p.1=k then(k,v)::r else p::EX k v r
noncomputable def LT(k:Int)(v:V):List (Int×V)->List (Int×V)
 | []=>[(k,v)]
 | p::r=>if p.1=k then(k,v)::r else p::LT k v r
noncomputable def fT(x:V)(xs:List V):M Bool:=vW x bad fun k=>if xs.all wn=true then ret (xs.any (J9 k))else bad
noncomputable def gG(x:V)(c:Af):M Bool:= @Af.casesOn (fun J=>M Bool) c (fT x) (fT x) (fun kvs=>vW x bad fun k=>ret (Dr k kvs).isSome) (fun J=>bad) (fun kvs=>vI x bad fun k=>ret (Fi k kvs).isSome) (fun J J=>bad) bad
noncomputable def Sz(x c:V):M Bool:=bnd (B4 c) (gG x)
noncomputable def Y7(m:M Bool):M Bool:=bnd m fun b=>ret !b
noncomputable def Hb{α:Type}(a b:V)(k:Int->Int->M α):M α:=vI a bad fun x=>vI b bad (k x)
noncomputable def S3(op:UV)(a b:V):M Bool:=match op with
 | .eq=>fun H=>Cp (Tb H a b) H
 | .ne=>Y7 fun H=>Cp (Tb H a b) H
 | .isin=>Sz a b
 | .notin=>Y7 (Sz a b)
 | .lt=>Hb a b fun x y=>ret (decide (x < y))
 | .le=>Hb a b fun x y=>ret (decide (x<=y))
 | .gt=>Hb a b fun x y=>ret (decide (y < x))
 | .ge=>Hb a b fun x y=>ret (decide (y<=x))
noncomputable def BR:Nat:=100000
noncomputable def M5(op:U3)(a b:V):M V:=match op with
 | .add=>vI a (vR a bad fun l=>vR b bad fun r=>bnd (B4 (.ref l)) fun c=>bnd (B4 (.ref r)) fun d=>cL c bad fun xs=>cL d bad fun ys=>if xs.length+ys.length<=BR then alloc (.list (xs++ys))else bad) fun x=>vI b bad fun y=>ret (.int (x+y))
 | .sub=>Hb a b fun x y=>ret (.int (x - y))
 | .mod=>Hb a b fun x y=>if 0 < y then ret (.int (x % y))else bad
 | .fdiv=>Hb a b fun x y=>if y=1024 then ret (.int (x / y))else bad
 | .mul=>vR a bad fun l=>vI b bad fun k=>bnd (B4 (.ref l)) fun c=>cL c bad fun xs=> @List.casesOn _ (fun J=>M V) xs bad fun x r=>if r.isEmpty=true/\0<=k/\k<=1000 then alloc (.list (List.replicate k.toNat x))else bad
noncomputable def AG(v:V):M Bool:=vB v bad ret
noncomputable def VP(v:V):M V:=bnd (B4 v) fun c=>cL c bad fun xs=>if xs.length<=BR then ret (.int xs.length)else bad
noncomputable def V7(i:V)(xs:List V):M V:=vI i bad fun k=>if 0<=k/\k<=BR then Cp xs[k.toNat]? else bad
noncomputable def SI(i:V)(kvs:List (Nat×V)):M V:=vW i bad fun k=>Cp (Dr k kvs)
noncomputable def Yn(o i:V):M V:=bnd (B4 o) fun c=> @Af.casesOn (fun J=>M V) c (V7 i) (V7 i) (SI i) (SI i) (fun J=>bad) (fun J J=>bad) bad
noncomputable def Su(o:V)(a:Nat):M V:=bnd (B4 o) fun c=>cN c bad fun J fs=>Cp (Dr a fs)
noncomputable def Iu(o:V)(a:Nat)(v:V):M Unit:=Jw o fun l c=>cN c bad fun k fs=>if fs.length < 100 then D6 (.ref l) (.inst k (EX a v fs))else bad
noncomputable def Dg(o k v:V):M Unit:=Jw o fun l c=> @Af.casesOn (fun J=>M Unit) c (fun xs=>vI k bad fun i=>if 0<=i/\i < xs.length/\xs.length<=BR then D6 (.ref l) (.list (xs.set i.toNat v))else bad) (fun J=>bad)
 (fun kvs=>vW k bad fun i=>if kvs.length < 100 then D6 (.ref l) (.dictW (EX i v kvs))else bad) (fun J=>bad)
 (fun kvs=>vI k bad fun i=>if kvs.length < 100/\0<=i/\i<=BR then D6 (.ref l) (.dictI (LT i v kvs))else bad) (fun J J=>bad) bad
noncomputable def cutTo(Aa:List Int)(o k:V):M V:=vI k bad fun i=> @V.casesOn (fun J=>M V) o bad (fun J=>bad) (fun J=>bad) (fun J=>bad) (fun J=>bad)
 (fun J=>bnd (B4 o) fun c=>cL c bad fun xs=>if 0<=i/\i<=BR/\xs.length<=BR then alloc (.list (xs.take i.toNat))else bad)
 (if i=40 then alloc (.list ((Aa.take 40).map .int))else bad)
noncomputable def cutFrom(o k:V):M V:=vI k bad fun i=>bnd (B4 o) fun c=>cL c bad fun xs=>if 0<=i/\i<=BR/\xs.length<=BR then alloc (.list (xs.drop i.toNat))else bad
noncomputable def OP(v:V):M V:=bnd (B4 v) fun c=>cL c bad fun xs=>if xs.length<=BR then alloc (.list xs)else bad
noncomputable def OE(v:V):M V:=bnd (B4 v) fun c=>cD c bad fun kvs=>if kvs.length < 100 then alloc (.dictW kvs)else bad
noncomputable def Ve(v:V):M V:=vI v bad fun i=>if 0<=i/\i<=BR then ret (.dec i)else bad
noncomputable def XA(a b:V):M V:=Hb a b fun x y=>ret (.int (if y > x then y else x))
noncomputable def dX(t:Ty)(c:Af):Option Bool:= @Af.casesOn (fun J=>Option Bool) c (fun J=> @Ty.casesOn (fun J=>Option Bool) t none none (some true)) (fun J=> @Ty.casesOn (fun J=>Option Bool) t none none (some false)) (fun J=>none) (fun J=>none) (fun J=>none) (fun J J=> @Ty.casesOn (fun J=>Option Bool) t (some false) none none) none
noncomputable def O3(v:V)(t:Ty):M V:= @V.casesOn (fun J=>M V) v bad (fun J=>bad) (fun J=> @Ty.casesOn (fun J=>M V) t (ret (.bool false)) (ret (.bool true)) bad) (fun J=> @Ty.casesOn (fun J=>M V) t (ret (.bool true)) (ret (.bool false)) bad) (fun J=>bad)
 (fun a=>bnd (B4 (.ref a)) fun c=>bnd (Cp (dX t c)) fun b=>ret (.bool b)) bad
noncomputable def ZT(c:Dx):Bool:= @Dx.casesOn (fun J=>Bool) c false true
noncomputable def I3(v:V):M V:=bnd (B4 v) fun c=>cN c bad fun k J=>if ZT k=true then ret (.bool true)else bad
noncomputable def H6(o v:V):M V:=Jw o fun l c=>cL c bad fun xs=>if xs.length<=BR then bnd (D6 (.ref l) (.list (xs++[v]))) fun J=>ret .none else bad
noncomputable def CI(o v:V):M V:=if o=v then bad else Jw o fun l c=>bnd (B4 v) fun d=>cL c bad fun xs=>cL d bad fun ys=>if xs.length+ys.length<=BR then bnd (D6 (.ref l) (.list (xs++ys))) fun J=>ret .none else bad
noncomputable def QH(v:V):Bool:=vI v false fun J=>true
noncomputable def TL(o:V):M V:=Jw o fun l c=>cL c bad fun xs=>if xs.length<=BR/\xs.all QH=true then bnd (Cp xs.getLast?) fun x=>bnd (D6 (.ref l) (.list xs.dropLast)) fun J=>ret x else bad
noncomputable def GK(o:V):M V:=Jw o fun l c=>cL c bad fun xs=>if xs.length<=BR then bnd (D6 (.ref l) (.list xs.reverse)) fun J=>ret .none else bad
noncomputable def Wx(x:V)(xs:List V):M V:=vW x bad fun k=>if xs.all wn=true/\xs.length<=BR then bnd (Cp (xs.findIdx? (J9 k))) fun(i:Nat)=>ret (.int i)else bad
noncomputable def Nk(tp:Bool)(o x:V):M V:=bnd (B4 o) fun c=> @Bool.casesOn (fun J=>M V) tp (cL c bad (Wx x)) (cT c bad (Wx x))
noncomputable def PS(o k d:V):M V:=bnd (B4 o) fun c=>cD c bad fun kvs=>vW k bad fun i=>ret ((Dr i kvs).getD d)
noncomputable def R6(v:V):M Unit:=bnd (B4 v) fun c=>cL c bad fun J=>ret ()
noncomputable def T6(v:V):M Unit:=bnd (B4 v) fun c=>cD c bad fun J=>ret ()
noncomputable def W1(v:V):M Bool:=bnd (B4 v) fun c=>cL c (cT c bad fun J=>ret true) fun J=>ret false
noncomputable def Xb(v:V):M Unit:=vW v bad fun J=>ret ()
noncomputable abbrev Fh:=Nat->Nat->Option Bool
noncomputable def Kr(bg:Fh)(o k:V):M V:=vW o bad fun a=>vW k bad fun b=>bnd (Cp (bg a b)) fun t=>ret (.bool t)
inductive ME(F:Type) where
 | O (i:Nat)
 | cst (v:V)
 | usub (k:Nat)
 | gmax
 | attr (e:ME F) (a:Nat)
 | idx (e i:ME F)
 | cutTo (e k:ME F)
 | cutFrom (e k:ME F)
 | bin (op:U3) (a b:ME F)
 | cmp (op:UV) (a b:ME F)
 | isNone (neg:Bool) (e:ME F)
 | inW (neg:Bool) (e:ME F) (ws:List Nat)
 | and2 (a b:ME F)
 | or2 (a b:ME F)
 | not (a:ME F)
 | ite (c a b:ME F)
 | lst (es:List (ME F))
 | tup (es:List (ME F))
 | dct0
 | dct0I
 | dct1 (k:Nat) (e:ME F)
 | call (f:F) (es:List (ME F))
 | mk (c:Dx) (es:List (ME F))
 | len (e:ME F)
 | listOf (e:ME F)
 | dictOf (e:ME F)
 | strOf (e:ME F)
 | max2 (a b:ME F)
 | isV (e:ME F)
 | isT (e:ME F) (t:Ty)
 | append (o e:ME F)
 | extend (o e:ME F)
 | pop (o:ME F)
 | reverse (o:ME F)
 | index (o e:ME F)
 | get1 (o k:ME F)
 | get2 (o k d:ME F)
 | starts (o k:ME F)
 | mcall (o:ME F) (f:F)
 | comp (elt it:ME F)
 | compR (elt n:ME F)
 | compIf (elt cond n:ME F)
 | dcomp (v it:ME F)
 | kept (e:ME F)
 | bad
inductive MS(F:Type) where
 | asg (i:Nat) (e:ME F)
 | asgT (is:List Nat) (e:ME F)
 | setA (o:ME F) (a:Nat) (e:ME F)
 | setI (o k e:ME F)
 | augL (i:Nat) (e:ME F)
 | ex (e:ME F)
 | ret (e:ME F)
 | ret0
 | ifs (c:ME F) (t e:List (MS F))
 | forN (i:Nat) (n:ME F) (b:List (MS F))
 | forR (i:Nat) (lo hi:ME F) (b:List (MS F))
 | forE (i:Nat) (it:ME F) (b:List (MS F))
 | forD (i:Nat) (it:ME F) (b:List (MS F))
 | raise (m:Nat)
 | bad
structure Ja(F:Type) where
 Aa:List Int
 bg:Fh
 initOf:Dx->F
 call:F->List V->M V
noncomputable abbrev Env:=List (Option V)
noncomputable def Hz(v:V):M (List V):=bnd (B4 v) fun c=>cL c bad fun xs=>if xs.length<=BR then ret xs else bad
noncomputable def getD(v:V):M (List (Nat×V)):=bnd (B4 v) fun c=>cD c bad fun kvs=>if kvs.length < 100 then ret kvs else bad
noncomputable def stays(v:V)(c:Af):M Unit:=bnd (B4 v) fun c'=>if c'=c then ret ()else bad
noncomputable def BV(lo hi:Int):List V:=(List.range (hi - lo).toNat).map fun(k:Nat)=> .int (lo+(k:Int))
noncomputable def Bv(f:V->M (Option V))(post:M Unit):List V->M (List V)
 | []=>ret []
 | x::r=>bnd (f x) fun y=>bnd post fun J=>bnd (Bv f post r) fun ys=>ret (y.toList++ys)
noncomputable def still{α:Type}(m:M α):M α:=fun H=>match m H with
 | .exc _ _=> .bad
 | r=>r
noncomputable def J5(m:M V):M V:=fun H=>match m H with
 | .exc e H'=> .ok (.w e) H'
 | r=>r
section
variable{F:Type}(C:Ja F)
mutual
noncomputable def Ac:ME F->Env->M V
 | .O i,env=>Cp (env[i]?).join
 | .cst v,_=>ret v
 | .usub k,_=>ret (.int (-(k:Int)))
 | .gmax,_=>ret (.int 1000000)
 | .attr e a,env=>bnd (Ac e env) fun o=>Su o a
 | .idx e i,env=>bnd (Ac e env) fun o=>bnd (Ac i env) fun k=>Yn o k
 | .cutTo e k,env=>bnd (Ac e env) fun o=>bnd (Ac k env) fun k=>cutTo C.Aa o k
 | .cutFrom e k,env=>bnd (Ac e env) fun o=>bnd (Ac k env) fun k=>cutFrom o k
 | .bin op a b,env=>bnd (Ac a env) fun x=>bnd (Ac b env) fun y=>M5 op x y
 | .cmp op a b,env=>bnd (Ac a env) fun x=>bnd (Ac b env) fun y=>bnd (S3 op x y) fun t=>ret (.bool t)
 | .isNone neg e,env=>bnd (Ac e env) fun x=>ret (.bool (xor neg (decide (x=.none))))
 | .inW neg e ws,env=>bnd (Ac e env) fun x=>vW x Mine.bad fun i=>Mine.ret (.bool (xor neg (ws.contains i)))
 | .and2 a b,env=>bnd (Ac a env) fun x=>bnd (AG x) fun t=>if t then Ac b env else Mine.ret x
 | .or2 a b,env=>bnd (Ac a env) fun x=>bnd (AG x) fun t=>if t then Mine.ret x else Ac b env
 | .not a,env=>bnd (Ac a env) fun x=>bnd (AG x) fun t=>Mine.ret (.bool !t)
 | .ite c a b,env=>bnd (Ac c env) fun x=>bnd (AG x) fun t=>if t then Ac a env else Ac b env
 | .lst es,env=>bnd (Ep es env) fun vs=>if vs.length<=BR then alloc (.list vs)else Mine.bad
 | .tup es,env=>bnd (Ep es env) fun vs=>if vs.length<=BR then alloc (.tup vs)else Mine.bad
 | .dct0,_=>alloc (.dictW [])
 | .dct0I,_=>alloc (.dictI [])
 | .dct1 k e,env=>bnd (alloc (.dictW [])) fun d=>bnd (Ac e env) fun v=>bnd (stays d (.dictW [])) fun J=>bnd (D6 d (.dictW [(k,v)])) fun J=>Mine.ret d
 | .call f es,env=>bnd (Ep es env) fun vs=>C.call f vs
 | .mk c es,env=>bnd (Ep es env) fun vs=>bnd (alloc (.inst c [])) fun o=>bnd (still (C.call (C.initOf c) (o::vs))) fun r=>
   if r=.none then Mine.ret o else Mine.bad
 | .len e,env=>bnd (Ac e env) VP
 | .listOf e,env=>bnd (Ac e env) OP
 | .dictOf e,env=>bnd (Ac e env) OE
 | .strOf e,env=>bnd (Ac e env) Ve
 | .max2 a b,env=>bnd (Ac a env) fun x=>bnd (Ac b env) fun y=>XA x y
 | .isV e,env=>bnd (Ac e env) I3
 | .isT e t,env=>bnd (Ac e env) fun x=>O3 x t
 | .append o e,env=>bnd (Ac o env) fun x=>bnd (R6 x) fun J=>bnd (Ac e env) fun y=>H6 x y
 | .extend o e,env=>bnd (Ac o env) fun x=>bnd (R6 x) fun J=>bnd (Ac e env) fun y=>CI x y
 | .pop o,env=>bnd (Ac o env) TL
 | .reverse o,env=>bnd (Ac o env) GK
 | .index o e,env=>bnd (Ac o env) fun x=>bnd (W1 x) fun t=>bnd (Ac e env) fun y=>Nk t x y
 | .get1 o k,env=>bnd (Ac o env) fun x=>bnd (T6 x) fun J=>bnd (Ac k env) fun y=>PS x y .none
 | .get2 o k d,env=>bnd (Ac o env) fun x=>bnd (T6 x) fun J=>bnd (Ac k env) fun y=>bnd (Ac d env) fun z=>PS x y z
 | .starts o k,env=>bnd (Ac o env) fun x=>bnd (Xb x) fun J=>bnd (Ac k env) fun y=>Kr C.bg x y
 | .mcall o f,env=>bnd (Ac o env) fun x=>bnd (I3 x) fun J=>C.call f [x]
 | .comp elt it,env=>bnd (Ac it env) fun l=>bnd (B4 l) fun c=>bnd (Hz l) fun xs=>
   bnd (still (Bv (fun x=>bnd (Ac elt (env++[some x])) fun y=>Mine.ret (some y)) (stays l c) xs)) fun ys=>if ys.length<=BR then alloc (.list ys)else Mine.bad
 | .compR elt n,env=>bnd (Ac n env) fun k=>vI k Mine.bad fun n=>if 0<=n/\n<=BR then bnd (still (Bv (fun x=>bnd (Ac elt (env++[some x])) fun y=>Mine.ret (some y)) (Mine.ret ()) (BV 0 n))) fun ys=>if ys.length<=BR then alloc (.list ys)else Mine.bad else Mine.bad
 | .compIf elt cond n,env=>bnd (Ac n env) fun k=>vI k Mine.bad fun n=>(if 0<=n/\n<=BR then bnd (still (Bv (fun x=>bnd (Ac cond (env++[some x])) fun c=>bnd (AG c) fun t=>if t then bnd (Ac elt (env++[some x])) fun y=>Mine.ret (some y)else Mine.ret Option.none) (Mine.ret ()) (BV 0 n))) fun ys=>if ys.length<=BR then alloc (.list ys)else Mine.bad else Mine.bad)
 | .dcomp v it,env=>bnd (Ac it env) fun l=>bnd (getD l) fun kvs=>bnd (D6 l (.dictP kvs)) fun J=>
   bnd (alloc (.dictW [])) fun d=>
   bnd (still (Bv (fun x=>bnd (Ac v (env++[some x])) fun y=>bnd (Dg d x y) fun J=>Mine.ret Option.none) (stays l (.dictP kvs)) (kvs.map fun p=> .w p.1))) fun J=>
   bnd (D6 l (.dictW kvs)) fun J=>Mine.ret d
 | .kept e,env=>fun H=>if H[0]? =some .tab then J5 (Ac e env) H else .bad
 | .bad,_=>Mine.bad
noncomputable def Ep:List (ME F)->Env->M (List V)
 | [],_=>ret []
 | e::r,env=>bnd (Ac e env) fun v=>bnd (Ep r env) fun vs=>ret (v::vs)
end
noncomputable def Eg:List Nat->List V->Env->Option Env
 | [],vs,env=> @List.casesOn _ (fun J=>Option Env) vs (some env) fun J J=>Option.none
 | i::is,vs,env=> @List.casesOn _ (fun J=>Option Env) vs Option.none fun v vs=>Eg is vs (env.set i (some v))
noncomputable def EW(f:V->Env->M (Env×Option V))(post:M Unit):List V->Env->M (Env×Option V)
 | [],env=>ret (env,Option.none)
 | x::r,env=>bnd (f x env) fun p=>(match p.2 with
  | some v=>ret (p.1,some v)
  | Option.none=>bnd post fun J=>EW f post r p.1)
mutual
noncomputable def E3:MS F->Env->M (Env×Option V)
 | .asg i e,env=>bnd (Ac C e env) fun v=>ret (env.set i (some v),Option.none)
 | .asgT is e,env=>bnd (Ac C e env) fun v=>bnd (B4 v) fun c=>cT c Mine.bad fun xs=>bnd (Cp (Eg is xs env)) fun Ai=>ret (Ai,Option.none)
 | .setA o a e,env=>bnd (Ac C e env) fun v=>bnd (Ac C o env) fun x=>bnd (Iu x a v) fun J=>ret (env,Option.none)
 | .setI o k e,env=>bnd (Ac C e env) fun v=>bnd (Ac C o env) fun x=>bnd (Ac C k env) fun i=>bnd (Dg x i v) fun J=>ret (env,Option.none)
 | .augL i e,env=>bnd (Cp (env[i]?).join) fun o=>bnd (Ac C e env) fun v=>bnd (CI o v) fun J=>ret (env,Option.none)
 | .ex e,env=>bnd (Ac C e env) fun J=>ret (env,Option.none)
 | .ret e,env=>bnd (Ac C e env) fun v=>ret (env,some v)
 | .ret0,env=>ret (env,some .none)
 | .ifs c t e,env=>bnd (Ac C c env) fun x=>bnd (AG x) fun b=>if b then Am t env else Am e env
 | .forN i n b,env=>bnd (Ac C n env) fun k=>vI k Mine.bad fun n=>if 0<=n/\n<=BR then EW (fun x env=>Am b (env.set i (some x))) (ret ()) (BV 0 n) env else Mine.bad
 | .forR i lo hi b,env=>bnd (Ac C lo env) fun a=>bnd (Ac C hi env) fun z=>Hb a z fun a z=>if 0<=a/\a<=BR/\0<=z/\z<=BR then still<|EW (fun x env=>Am b (env.set i (some x))) (ret ()) (BV a z) env else Mine.bad
 | .forE i it b,env=>bnd (Ac C it env) fun l=>bnd (B4 l) fun c=>bnd (Hz l) fun xs=>still (EW (fun x env=>Am b (env.set i (some x))) (stays l c) xs env)
 | .forD i it b,env=>bnd (Ac C it env) fun l=>bnd (getD l) fun kvs=>bnd (D6 l (.dictP kvs)) fun J=>
   bnd (still (EW (fun x env=>Am b (env.set i (some x))) (stays l (.dictP kvs)) (kvs.map fun p=> .w p.1) env)) fun r=>
   (match r.2 with
    | some _=>Mine.bad
    | Option.none=>bnd (D6 l (.dictW kvs)) fun J=>ret r)
 | .raise m,_=>Xf m
 | .bad,_=>Mine.bad
noncomputable def Am:List (MS F)->Env->M (Env×Option V)
 | [],env=>ret (env,Option.none)
 | s::r,env=>bnd (E3 s env) fun p=>(match p.2 with
  | some v=>ret (p.1,some v)
  | Option.none=>Am r p.1)
end
end
structure AB(F:Type) where
 params:Nat
 dflt:List V
 vars:Nat
 body:List (MS F)
noncomputable def DY{F:Type}(P:F->AB F)(Aa:List Int)(bg:Fh)(initOf:Dx->F):Nat->F->List V->M V
 | 0,_,_=>bad
 | d+1,f,args=>
  let fd:=P f
  let vs:=args++fd.dflt.drop (args.length+fd.dflt.length - fd.params)
  if vs.length=fd.params/\args.length+fd.dflt.length ≥ fd.params then
   bnd (Am { Aa:=Aa,bg:=bg,initOf:=initOf,call:=DY P Aa bg initOf d} fd.body (vs.map some++List.replicate (fd.vars - fd.params) Option.none)) fun p=>
    ret (p.2.getD .none)
  else bad
mutual
inductive Fn where
 | Cm | An | AU | DJ | Bo | CM | Bq | Ck | IM | BJ | B3 | Cn | CL | AO | C6 | BZ | B7 | DW | CZ | Bb | Cs | Ci | CD | Bm | A7 | Bz | Cw | CQ | Bs | Bt | Ah | Cq | AM | AN | BN | A8 | Bd | C5 | AP | DG | BA | B5 | BD | AX | AQ | AC | A5 | Ay | Bh | Du | Ao | AE | BO | AZ | CK | Br | BX | A6 | Bp | Be | Co | AW | AY
inductive iB where | z
end
noncomputable def Fn.ctorIdx(x:Fn):Nat:= @Fn.casesOn (fun J=>Nat) x 0 1 2 3 4 5 6 7 8 9 10 11 12 13 14 15 16 17 18 19 20 21 22 23 24 25 26 27 28 29 30 31 32 33 34 35 36 37 38 39 40 41 42 43 44 45 46 47 48 49 50 51 52 53 54 55 56 57 58 59 60 61 62
open Fn
noncomputable def SU:List String:=["kind","items","attrs","shared","loose","names","NULL","list","integer","character","NA","refused","a","b","ab","abc","","z","w","expression","pairlist","language","environment","logical","double","dim","attempt to select less than one element","symbol","subscript out of bounds","missing","$ operator is invalid for atomic vectors","dimnames","S4","replacement has length zero","more elements supplied than there are to replace","name","no such index at level 1","Coercing LHS to a list"]
noncomputable def KK:List (Nat×Nat):=[(12,12),(12,16),(13,13),(13,16),(14,12),(14,14),(14,16),(15,12),(15,14),(15,15),(15,16),(16,16),(17,16),(17,17)]
noncomputable def Gy:AB Fn:=⟨1,[],1,[.setA (.O 0) 0 (.cst (.w 6)),.setA (.O 0) 2 (.cst .none)]⟩
noncomputable def Dj:AB Fn:=⟨4,[.none],4,[.setA (.O 0) 0 (.O 1),.setA (.O 0) 1 (.O 2),.setA (.O 0) 2 (.O 3),.setA (.O 0) 3 (.cst (.bool false)),.setA (.O 0) 4 (.cst (.bool false))]⟩
noncomputable def IK:AB Fn:=⟨1,[],2,[.asg 1 (.cst .none),.ifs (.isNone true (.attr (.O 0) 2)) [.asg 1 (.dictOf (.attr (.O 0) 2))] [],
   .ret (.mk .vector [.attr (.O 0) 0,.listOf (.attr (.O 0) 1),.O 1])]⟩
noncomputable def Us:AB Fn:=⟨1,[],1,[.ifs (.cmp .gt (.O 0) (.gmax)) [.bad] [],
   .ret (.O 0)]⟩
noncomputable def Lo:AB Fn:=⟨1,[],1,[.ret (.mk .vector [.cst (.w 9),.listOf (.O 0)])]⟩
noncomputable def PI:AB Fn:=⟨1,[],2,[.asg 1 (.attr (.O 0) 0),.ifs (.cmp .eq (.O 1) (.cst (.w 6))) [.ret (.cst (.int 0))] [],
   .ifs (.or2 (.isV (.O 0)) (.cmp .eq (.O 1) (.cst (.w 21)))) [.ret (.len (.attr (.O 0) 1))] [],
   .bad]⟩
noncomputable def K8:AB Fn:=⟨1,[],1,[.ret (.isV (.O 0))]⟩
noncomputable def Lh:AB Fn:=⟨1,[],1,[.ret (.inW false (.attr (.O 0) 0) [23,8,24,9])]⟩
noncomputable def XW:AB Fn:=⟨1,[],1,[.ifs (.attr (.O 0) 4) [.bad] [],
   .ret (.mcall (.O 0) .AU)]⟩
noncomputable def Ts:AB Fn:=⟨1,[],1,[.ifs (.isV (.O 0)) [.setA (.O 0) 3 (.cst (.bool true))] [],
   .ret (.O 0)]⟩
noncomputable def Mk:AB Fn:=⟨2,[],2,[.ifs (.isNone false (.attr (.O 0) 2)) [.ret (.cst .none)] [],
   .ret (.get1 (.attr (.O 0) 2) (.O 1))]⟩
noncomputable def KZ:AB Fn:=⟨2,[],2,[.ifs (.and2 (.isNone true (.attr (.O 0) 2)) (.cmp .isin (.O 1) (.attr (.O 0) 2))) [.bad] []]⟩
noncomputable def MF:AB Fn:=⟨3,[],3,[.ifs (.isNone false (.attr (.O 0) 2)) [.setA (.O 0) 2 (.dct0)] [],
   .setI (.attr (.O 0) 2) (.O 1) (.call .BJ [.O 2])]⟩
noncomputable def MJ:AB Fn:=⟨1,[],5,[.ifs (.cmp .eq (.attr (.O 0) 0) (.cst (.w 21))) [.bad] [],
   .ifs (.cmp .eq (.attr (.O 0) 0) (.cst (.w 22))) [.bad] [],
   .asg 2 (.call .C6 [.O 0]),.ifs (.and2 (.isNone true (.O 2)) (.cmp .eq (.len (.O 2)) (.cst (.int 1)))) [.bad] [],
   .asg 4 (.call .B3 [.O 0,.cst (.w 5)]),.ifs (.isNone false (.O 4)) [.ret (.cst .none)] [],
   .ret (.listOf (.attr (.O 4) 1))]⟩
noncomputable def P4:AB Fn:=⟨1,[],2,[.asg 1 (.call .B3 [.O 0,.cst (.w 25)]),.ifs (.isNone false (.O 1)) [.ret (.cst .none)] [],
   .bad]⟩
noncomputable def Jv:AB Fn:=⟨1,[],2,[.asg 1 (.tup [.cst (.w 6),.cst (.w 23),.cst (.w 8),.cst (.w 24),.cst (.w 9),.cst (.w 7),.cst (.w 19)]),.ifs (.cmp .isin (.O 0) (.O 1)) [.ret (.index (.O 1) (.O 0))] [],
   .bad]⟩
noncomputable def Jj:AB Fn:=⟨1,[],4,[.asg 1 (.tup [.cst (.w 6),.cst (.w 23),.cst (.w 8),.cst (.w 24),.cst (.w 9),.cst (.w 7),.cst (.w 19)]),.asg 2 (.cst (.int 0)),.forE 3 (.O 0) [.asg 2 (.max2 (.O 2) (.call .BZ [.O 3]))],
   .ret (.idx (.O 1) (.O 2))]⟩
noncomputable def Oj:AB Fn:=⟨2,[],2,[.ifs (.or2 (.isNone false (.O 1)) (.cmp .eq (.O 0) (.cst (.w 9)))) [.bad] [],
   .ifs (.cmp .eq (.O 0) (.cst (.w 23))) [.bad] [],
   .ifs (.cmp .eq (.O 0) (.cst (.w 8))) [.ret (.strOf (.O 1))] [],
   .bad]⟩
noncomputable def NV:AB Fn:=⟨4,[],4,[.ifs (.cmp .eq (.O 0) (.O 2)) [.bad] [],
   .ifs (.or2 (.cmp .eq (.O 2) (.cst (.w 7))) (.or2 (.cmp .eq (.O 2) (.cst (.w 19))) (.cmp .eq (.O 2) (.cst (.w 20))))) [.ret (.ite (.call .Bb [.O 0]) (.call .BJ [.mk .vector [.O 0,.lst [.O 1]]]) (.O 1))] [],
   .ifs (.not (.call .Bb [.O 0])) [.bad] [],
   .ifs (.cmp .eq (.O 2) (.cst (.w 23))) [.bad] [],
   .ifs (.cmp .eq (.O 2) (.cst (.w 8))) [.bad] [],
   .ifs (.cmp .eq (.O 2) (.cst (.w 24))) [.bad] [],
   .ret (.call .DW [.O 0,.O 1])]⟩
noncomputable def GT:AB Fn:=⟨1,[],1,[.ret (.inW false (.O 0) [23,8,24,9])]⟩
noncomputable def Jy:AB Fn:=⟨2,[],2,[.ifs (.isNone true (.O 1)) [.setA (.O 0) 2 (.dct1 5 (.call .BJ [.call .Bo [.O 1]]))] [],
   .ret (.O 0)]⟩
noncomputable def M6:AB Fn:=⟨3,[],4,[.ifs (.not (.isV (.O 0))) [.bad] [],
   .asg 3 (.attr (.O 0) 1),.ifs (.cmp .ne (.attr (.O 0) 0) (.O 1)) [.asg 3 (.comp (.call .CZ [.attr (.O 0) 0,.O 4,.O 1,.O 2]) (.attr (.O 0) 1))] [],
   .ret (.call .Cs [.mk .vector [.O 1,.listOf (.O 3)],
   .call .AO [.O 0]])]⟩
noncomputable def N5:AB Fn:=⟨1,[],1,[.ret (.call .Ci [.O 0,.cst (.w 7),.lst []])]⟩
noncomputable def FK:AB Fn:=⟨1,[],3,[.ifs (.cmp .eq (.attr (.O 0) 0) (.cst (.w 8))) [.ret (.attr (.O 0) 1)] [],
   .bad]⟩
noncomputable def HN:AB Fn:=⟨1,[],4,[.asg 1 (.dct0),.ifs (.isNone true (.O 0)) [.forN 2 (.len (.O 0)) [.asg 3 (.idx (.O 0) (.O 2)),.ifs (.and2 (.isNone true (.O 3)) (.and2 (.cmp .ne (.O 3) (.cst (.w 16))) (.cmp .notin (.O 3) (.O 1)))) [.setI (.O 1) (.O 3) (.O 2)] []]] [],
   .ret (.O 1)]⟩
noncomputable def Hn:AB Fn:=⟨2,[],5,[.asg 2 (.call .A7 [.O 1]),.ifs (.cmp .isin (.O 0) (.O 2)) [.ret (.idx (.O 2) (.O 0))] [],
   .asg 3 (.usub 1),.ifs (.or2 (.isNone false (.O 1)) (.cmp .eq (.O 0) (.cst (.w 16)))) [.ret (.usub 1)] [],
   .forN 4 (.len (.O 1)) [.ifs (.and2 (.isNone true (.idx (.O 1) (.O 4))) (.starts (.idx (.O 1) (.O 4)) (.O 0))) [.ifs (.cmp .ge (.O 3) (.cst (.int 0))) [.ret (.usub 1)] [],
   .asg 3 (.O 4)] []],
   .ret (.O 3)]⟩
noncomputable def Mf:AB Fn:=⟨3,[],3,[.ifs (.isNone false (.O 0)) [.bad] [],
   .ifs (.not (.O 2)) [.ret (.call .Bz [.O 0,.O 1])] [],
   .ret (.get2 (.call .A7 [.O 1]) (.O 0) (.usub 1))]⟩
noncomputable def Lg:AB Fn:=⟨2,[],2,[.ifs (.isNone false (.O 0)) [.ret (.cst .none)] [],
   .ifs (.cmp .gt (.O 0) (.cst (.int 0))) [.ret (.bin .sub (.O 0) (.cst (.int 1)))] [],
   .ifs (.cmp .eq (.O 0) (.cst (.int 0))) [.raise 26] [],
   .bad]⟩
noncomputable def Kl:AB Fn:=⟨4,[],5,[.asg 4 (.attr (.O 0) 0),.ifs (.cmp .eq (.O 4) (.cst (.w 27))) [.bad] [],
   .ifs (.inW true (.O 4) [23,8,24,9]) [.bad] [],
   .ifs (.cmp .eq (.len (.attr (.O 0) 1)) (.cst (.int 0))) [.bad] [],
   .ifs (.cmp .gt (.len (.attr (.O 0) 1)) (.cst (.int 1))) [.bad] [],
   .ifs (.cmp .eq (.O 4) (.cst (.w 9))) [.ret (.call .Cw [.idx (.attr (.O 0) 1) (.cst (.int 0)),.O 2,.O 3])] [],
   .ifs (.cmp .eq (.O 4) (.cst (.w 23))) [.bad] [],
   .ret (.call .CQ [.idx (.call .Bm [.O 0]) (.cst (.int 0)),.O 1])]⟩
noncomputable def HM:AB Fn:=⟨1,[],1,[.ifs (.inW false (.O 0) [7,19,20]) [.ret (.mk .null [])] [],
   .ret (.cst .none)]⟩
noncomputable def HQ:AB Fn:=⟨1,[],1,[.ret (.inW false (.O 0) [7,19,20])]⟩
noncomputable def Ms:AB Fn:=⟨2,[],2,[.ifs (.call .Ah [.attr (.O 0) 0]) [.ret (.idx (.attr (.O 0) 1) (.O 1))] [],
   .ret (.mk .vector [.attr (.O 0) 0,.lst [.idx (.attr (.O 0) 1) (.O 1)]])]⟩
noncomputable def Gx:AB Fn:=⟨3,[],5,[.asg 3 (.len (.attr (.O 0) 1)),.asg 4 (.call .Bs [.O 1,.O 3,.call .AO [.O 0],
   .O 2]),.ifs (.isNone false (.O 4)) [.ifs (.call .Ah [.attr (.O 0) 0]) [.ret (.mk .null [])] [],
   .ret (.mk .vector [.attr (.O 0) 0,.lst [.cst .none]])] [],
   .ifs (.and2 (.cmp .lt (.O 4) (.cst (.int 0))) (.call .Ah [.attr (.O 0) 0])) [.ret (.mk .null [])] [],
   .ifs (.or2 (.cmp .lt (.O 4) (.cst (.int 0))) (.cmp .ge (.O 4) (.O 3))) [.raise 28] [],
   .ret (.call .Cq [.O 0,.O 4])]⟩
noncomputable def HT:AB Fn:=⟨3,[],5,[.ifs (.cmp .eq (.attr (.O 0) 0) (.cst (.w 6))) [.ret (.mk .null [])] [],
   .ifs (.cmp .eq (.attr (.O 0) 0) (.cst (.w 22))) [.bad] [],
   .ifs (.cmp .eq (.attr (.O 0) 0) (.cst (.w 21))) [.bad] [],
   .ifs (.not (.call .Bq [.O 0])) [.bad] [],
   .ret (.call .AM [.O 0,.O 1,.O 2])]⟩
noncomputable def Jg:AB Fn:=⟨1,[],1,[.ret (.comp (.mk .vector [.attr (.O 0) 0,.lst [.O 1]]) (.attr (.O 0) 1))]⟩
noncomputable def G9:AB Fn:=⟨1,[],1,[.ret (.and2 (.call .Bq [.O 0]) (.and2 (.not (.call .Ah [.attr (.O 0) 0])) (.cmp .gt (.len (.attr (.O 0) 1)) (.cst (.int 1)))))]⟩
noncomputable def M3:AB Fn:=⟨3,[],6,[.ifs (.or2 (.cmp .eq (.len (.O 1)) (.cst (.int 0))) (.cmp .eq (.attr (.idx (.O 1) (.cst (.int 0))) 0) (.cst (.w 29)))) [.bad] [],
   .ifs (.cmp .gt (.len (.O 1)) (.cst (.int 1))) [.bad] [],
   .asg 3 (.idx (.O 1) (.cst (.int 0))),.ifs (.or2 (.not (.call .A8 [.O 3])) (.not (.or2 (.call .Ah [.attr (.O 0) 0]) (.cmp .eq (.attr (.O 0) 0) (.cst (.w 21)))))) [.ret (.call .AN [.O 0,.O 3,.O 2])] [],
   .asg 4 (.call .BN [.O 3]),.forN 5 (.len (.O 4)) [.ifs (.cmp .eq (.attr (.O 0) 0) (.cst (.w 6))) [.raise 28] [],
   .asg 0 (.call .AN [.O 0,.idx (.O 4) (.O 5),.O 2])],
   .ret (.O 0)]⟩
noncomputable def PD:AB Fn:=⟨2,[],4,[.ifs (.cmp .eq (.attr (.O 0) 0) (.cst (.w 6))) [.ret (.mk .null [])] [],
   .ifs (.cmp .eq (.attr (.O 0) 0) (.cst (.w 22))) [.bad] [],
   .ifs (.cmp .eq (.attr (.O 0) 0) (.cst (.w 21))) [.bad] [],
   .ifs (.not (.call .Bq [.O 0])) [.bad] [],
   .ifs (.not (.call .Ah [.attr (.O 0) 0])) [.raise 30] [],
   .ret (.call .AM [.O 0,.call .Bo [.lst [.O 1]],
   .cst (.bool false)])]⟩
noncomputable def F8:AB Fn:=⟨3,[],3,[.ifs (.or2 (.cmp .eq (.attr (.O 0) 0) (.O 1)) (.and2 (.call .Ah [.attr (.O 0) 0]) (.call .Ah [.O 1]))) [.ret (.attr (.O 0) 1)] [],
   .ifs (.call .Ah [.O 1]) [.ret (.attr (.call .CD [.O 0]) 1)] [],
   .ret (.attr (.call .Ci [.O 0,.O 1,.O 2]) 1)]⟩
noncomputable def PA:AB Fn:=⟨3,[],4,[.ifs (.cmp .eq (.attr (.O 0) 0) (.O 1)) [.ret (.call .IM [.O 0])] [],
   .asg 3 (.cst .none),.ifs (.isNone true (.attr (.O 0) 2)) [.asg 3 (.dictOf (.attr (.O 0) 2))] [],
   .ret (.mk .vector [.O 1,.listOf (.call .AP [.O 0,.O 1,.O 2]),.O 3])]⟩
noncomputable def Hv:AB Fn:=⟨4,[],7,[.asg 4 (.len (.attr (.O 0) 1)),.forR 5 (.O 4) (.call .DJ [.O 1]) [.ex (.append (.attr (.O 0) 1) (.call .Bt [.attr (.O 0) 0]))],
   .ex (.call .Cn [.O 0,.cst (.w 25)]),.ex (.call .Cn [.O 0,.cst (.w 31)]),.ifs (.and2 (.isNone false (.O 2)) (.isNone false (.O 3))) [.ret0] [],
   .asg 6 (.bin .mul (.lst [.cst (.w 16)]) (.O 4)),.ifs (.isNone true (.O 2)) [.asg 6 (.listOf (.O 2))] [],
   .ifs (.isNone true (.O 3)) [.ex (.extend (.O 6) (.O 3))] [],
   .ex (.extend (.O 6) (.bin .mul (.lst [.cst (.w 16)]) (.bin .sub (.O 1) (.len (.O 6))))),.ex (.call .CL [.O 0,.cst (.w 5),.call .Bo [.O 6]])]⟩
noncomputable def IY:AB Fn:=⟨1,[],3,[.asg 1 (.cst (.int 0)),.forE 2 (.O 0) [.ifs (.and2 (.isNone true (.O 2)) (.cmp .ge (.O 2) (.O 1))) [.asg 1 (.bin .add (.O 2) (.cst (.int 1)))] []],
   .ret (.O 1)]⟩
noncomputable def Hg:AB Fn:=⟨2,[],12,[.asg 2 (.call .AO [.O 0]),.asg 3 (.call .DJ [.max2 (.len (.attr (.O 0) 1)) (.call .B5 [.O 1])]),.asg 4 .dct0I,.forE 5 (.O 1) [.ifs (.isNone true (.O 5)) [.setI (.O 4) (.O 5) (.cst (.bool true))] []],
   .asg 6 (.lst []),.asg 7 (.lst []),.forN 8 (.O 3) [.ifs (.cmp .notin (.O 8) (.O 4)) [.asg 9 (.cmp .lt (.O 8) (.len (.attr (.O 0) 1))),.ex (.append (.O 6) (.ite (.O 9) (.idx (.attr (.O 0) 1) (.O 8)) (.mk .null []))),.ifs (.isNone true (.O 2)) [.ex (.append (.O 7) (.ite (.O 9) (.idx (.O 2) (.O 8)) (.cst (.w 16))))] []] []],
   .asg 10 (.mk .vector [.attr (.O 0) 0,.O 6]),.ifs (.isNone true (.attr (.O 0) 2)) [.forD 11 (.attr (.O 0) 2) [.ifs (.inW true (.O 11) [5,25,31]) [.bad] []]] [],
   .ifs (.isNone true (.O 2)) [.ex (.call .CL [.O 10,.cst (.w 5),.call .Bo [.O 7]])] [],
   .ret (.O 10)]⟩
noncomputable def HP:AB Fn:=⟨2,[],2,[.ifs (.call .Ah [.attr (.O 0) 0]) [.ret (.attr (.O 0) 0)] [],
   .ifs (.call .Ck [.O 1]) [.ret (.call .B7 [.lst [.attr (.O 0) 0,.attr (.O 1) 0]])] [],
   .ifs (.or2 (.call .Ah [.attr (.O 1) 0]) (.inW false (.attr (.O 1) 0) [27,21,32])) [.ret (.cst (.w 7))] [],
   .bad]⟩
noncomputable def Js:AB Fn:=⟨5,[],9,[.asg 5 (.call .AO [.O 0]),.ifs (.not (.call .Ah [.attr (.O 0) 0])) [.ifs (.cmp .eq (.call .CM [.O 3]) (.cst (.int 0))) [.raise 33] [],
   .ifs (.cmp .gt (.call .CM [.O 3]) (.cst (.int 1))) [.raise 34] []] [],
   .asg 6 (.call .AX [.O 0,.O 3]),.asg 7 (.call .DG [.O 0,.O 6,.O 4]),.ifs (.cmp .ge (.O 1) (.len (.attr (.O 7) 1))) [.asg 8 (.cst .none),.ifs (.isNone true (.O 2)) [.asg 8 (.lst [.O 2])] [],
   .ex (.call .BA [.O 7,.bin .add (.O 1) (.cst (.int 1)),.O 5,.O 8])] [],
   .ifs (.call .Ah [.O 6]) [.setI (.attr (.O 7) 1) (.O 1) (.call .BJ [.O 3])] [.setI (.attr (.O 7) 1) (.O 1) (.idx (.call .AP [.O 3,.O 6,.O 4]) (.cst (.int 0)))],
   .ret (.O 7)]⟩
noncomputable def IF:AB Fn:=⟨4,[],8,[.ifs (.cmp .eq (.attr (.O 0) 0) (.cst (.w 6))) [.ifs (.cmp .eq (.attr (.O 2) 0) (.cst (.w 6))) [.ret (.O 0)] [],
   .asg 4 (.cst (.w 7)),.ifs (.and2 (.call .Ck [.O 2]) (.cmp .eq (.len (.attr (.O 2) 1)) (.cst (.int 1)))) [.asg 4 (.attr (.O 2) 0)] [],
   .asg 0 (.mk .vector [.O 4,.lst []])] [],
   .asg 5 (.len (.attr (.O 0) 1)),.asg 6 (.call .Bs [.O 1,.O 5,.call .AO [.O 0],
   .cst (.bool true)]),.ifs (.isNone false (.O 6)) [.raise 28] [],
   .ifs (.and2 (.cmp .eq (.attr (.O 2) 0) (.cst (.w 6))) (.call .Ah [.attr (.O 0) 0])) [.ifs (.or2 (.cmp .lt (.O 6) (.cst (.int 0))) (.cmp .ge (.O 6) (.O 5))) [.ret (.O 0)] [],
   .ret (.call .BD [.O 0,.lst [.O 6]])] [],
   .asg 7 (.cst .none),.ifs (.cmp .lt (.O 6) (.cst (.int 0))) [.asg 6 (.O 5),.asg 7 (.ite (.cmp .eq (.attr (.O 1) 0) (.cst (.w 27))) (.attr (.O 1) 35) (.idx (.attr (.O 1) 1) (.cst (.int 0))))] [],
   .ret (.call .AQ [.O 0,.O 6,.O 7,.O 2,.O 3])]⟩
noncomputable def Jo:AB Fn:=⟨4,[],5,[.ifs (.cmp .eq (.attr (.O 0) 0) (.cst (.w 21))) [.bad] [],
   .ifs (.and2 (.cmp .ne (.attr (.O 0) 0) (.cst (.w 6))) (.not (.call .Bq [.O 0]))) [.bad] [],
   .ifs (.cmp .eq (.len (.O 1)) (.cst (.int 1))) [.ret (.call .AC [.O 0,.idx (.O 1) (.cst (.int 0)),.O 2,.O 3])] [],
   .asg 4 (.call .AN [.O 0,.idx (.O 1) (.cst (.int 0)),.cst (.bool true)]),.ifs (.cmp .eq (.attr (.O 4) 0) (.cst (.w 6))) [.raise 36] [],
   .ret (.call .AC [.O 0,.idx (.O 1) (.cst (.int 0)),.call .A5 [.O 4,.cutFrom (.O 1) (.cst (.int 1)),.O 2,.O 3],
   .O 3])]⟩
noncomputable def GH:AB Fn:=⟨4,[],6,[.ifs (.or2 (.cmp .eq (.len (.O 1)) (.cst (.int 0))) (.cmp .eq (.attr (.idx (.O 1) (.cst (.int 0))) 0) (.cst (.w 29)))) [.bad] [],
   .ifs (.cmp .gt (.len (.O 1)) (.cst (.int 1))) [.bad] [],
   .asg 5 (.idx (.O 1) (.cst (.int 0))),.ifs (.and2 (.call .A8 [.O 5]) (.or2 (.call .Ah [.attr (.O 0) 0]) (.cmp .eq (.attr (.O 0) 0) (.cst (.w 21))))) [.ret (.call .A5 [.O 0,.call .BN [.O 5],
   .O 2,.O 3])] [],
   .ret (.call .A5 [.O 0,.lst [.O 5],
   .O 2,.O 3])]⟩
noncomputable def G4:AB Fn:=⟨4,[],4,[.ifs (.cmp .eq (.attr (.O 0) 0) (.cst (.w 21))) [.bad] [],
   .ifs (.cmp .eq (.attr (.O 0) 0) (.cst (.w 6))) [.asg 0 (.mk .vector [.cst (.w 7),.lst []])] [],
   .ifs (.not (.call .Bq [.O 0])) [.bad] [],
   .ifs (.not (.call .Ah [.attr (.O 0) 0])) [.ifs (.cmp .gt (.len (.attr (.O 0) 1)) (.cst (.int 0))) [.ex (.append (.O 3) (.cst (.w 37)))] [],
   .asg 0 (.call .DG [.O 0,.cst (.w 7),.O 3])] [],
   .ret (.call .AC [.O 0,.call .Bo [.lst [.O 1]],
   .O 2,.O 3])]⟩
noncomputable def Oa:AB Fn:=⟨1,[],5,[.asg 1 (.lst []),.forE 2 (.cutTo (.O 0) (.cst (.int 40))) [.asg 3 (.ite (.cmp .ge (.O 2) (.cst (.int 0))) (.O 2) (.bin .sub (.cst (.int 7)) (.O 2))),.ex (.append (.O 1) (.bin .mod (.O 3) (.cst (.int 1024)))),.asg 3 (.bin .fdiv (.O 3) (.cst (.int 1024))),.forN 4 (.cst (.int 30)) [.ifs (.cmp .gt (.O 3) (.cst (.int 0))) [.ex (.append (.O 1) (.bin .mod (.O 3) (.cst (.int 1024)))),.asg 3 (.bin .fdiv (.O 3) (.cst (.int 1024)))] []]],
   .asg 1 (.cutTo (.O 1) (.cst (.int 160))),.ex (.reverse (.O 1)),.ret (.O 1)]⟩
noncomputable def Ly:AB Fn:=⟨1,[],1,[.ret (.ite (.cmp .ne (.O 0) (.lst [])) (.pop (.O 0)) (.cst (.int 0)))]⟩
noncomputable def Mp:AB Fn:=⟨1,[],2,[.ifs (.isT (.O 0) .str) [.bad] [],
   .ifs (.cmp .eq (.attr (.O 0) 0) (.cst (.w 6))) [.ret (.cst (.w 6))] [],
   .asg 1 (.dct0),.ifs (.isNone true (.attr (.O 0) 2)) [.asg 1 (.dcomp (.call .AE [.idx (.attr (.O 0) 2) (.O 2)]) (.attr (.O 0) 2))] [],
   .ifs (.inW false (.attr (.O 0) 0) [7,19,20]) [.ret (.tup [.attr (.O 0) 0,.comp (.call .AE [.O 2]) (.attr (.O 0) 1),.O 1])] [],
   .ret (.tup [.attr (.O 0) 0,.listOf (.attr (.O 0) 1),.O 1])]⟩
noncomputable def Lj:AB Fn:=⟨2,[],2,[.ret (.compR (.idx (.lst [.cst (.w 12),.cst (.w 13),.cst (.w 14),.cst (.w 16),.cst .none,.cst (.w 15)]) (.bin .mod (.call .Ao [.O 0]) (.cst (.int 6)))) (.O 1))]⟩
noncomputable def Mx:AB Fn:=⟨2,[],6,[.asg 2 (.bin .mod (.call .Ao [.O 0]) (.ite (.cmp .gt (.O 1) (.cst (.int 0))) (.cst (.int 5)) (.cst (.int 3)))),.ifs (.cmp .eq (.O 2) (.cst (.int 2))) [.ret (.mk .null [])] [],
   .ifs (.cmp .gt (.O 2) (.cst (.int 2))) [.asg 3 (.compR (.call .AZ [.O 0,.bin .sub (.O 1) (.cst (.int 1))]) (.bin .mod (.call .Ao [.O 0]) (.cst (.int 4)))),.asg 4 (.mk .vector [.cst (.w 7),.O 3])] [.asg 5 (.bin .add (.cst (.int 1)) (.bin .mod (.call .Ao [.O 0]) (.cst (.int 3)))),.asg 4 (.mk .vector [.idx (.lst [.cst (.w 8),.cst (.w 9)]) (.O 2),.compR (.idx (.lst [.bin .mod (.call .Ao [.O 0]) (.cst (.int 50)),.cst (.w 18)]) (.O 2)) (.O 5)])],
   .ifs (.cmp .eq (.bin .mod (.call .Ao [.O 0]) (.cst (.int 2))) (.cst (.int 1))) [.setA (.O 4) 2 (.dct1 5 (.mk .vector [.cst (.w 9),.call .BO [.O 0,.len (.attr (.O 4) 1)]]))] [],
   .ret (.O 4)]⟩
noncomputable def LW:AB Fn:=⟨1,[],4,[.asg 1 (.bin .mod (.call .Ao [.O 0]) (.cst (.int 6))),.ifs (.cmp .eq (.O 1) (.cst (.int 4))) [.ret (.mk .vector [.cst (.w 8),.compR (.bin .mod (.call .Ao [.O 0]) (.cst (.int 9))) (.bin .mod (.call .Ao [.O 0]) (.cst (.int 4)))])] [],
   .ifs (.cmp .eq (.O 1) (.cst (.int 5))) [.ret (.mk .null [])] [],
   .asg 2 (.bin .mod (.call .Ao [.O 0]) (.cst (.int 4))),.asg 3 (.mk .vector [.cst (.w 7),.compR (.call .AZ [.O 0,.cst (.int 1)]) (.O 2)]),.ifs (.cmp .eq (.bin .mod (.call .Ao [.O 0]) (.cst (.int 2))) (.cst (.int 1))) [.setA (.O 3) 2 (.dct1 5 (.mk .vector [.cst (.w 9),.call .BO [.O 0,.O 2]]))] [],
   .ret (.O 3)]⟩
noncomputable def HO:AB Fn:=⟨1,[],1,[.ret (.ite (.and2 (.cmp .ne (.O 0) (.cst (.w 6))) (.cmp .isin (.cst (.w 5)) (.idx (.O 0) (.cst (.int 2))))) (.listOf (.idx (.idx (.idx (.O 0) (.cst (.int 2))) (.cst (.w 5))) (.cst (.int 1)))) (.cst .none))]⟩
noncomputable def MK:AB Fn:=⟨3,[],5,[.ifs (.isT (.O 1) .int) [.ret (.ite (.cmp .eq (.O 1) (.cst (.int 0))) (.cst (.w 26)) (.bin .sub (.O 1) (.cst (.int 1))))] [],
   .asg 3 (.call .Br [.O 0]),.ifs (.or2 (.cmp .eq (.O 1) (.cst (.w 16))) (.isNone false (.O 3))) [.ret (.usub 1)] [],
   .ifs (.cmp .isin (.O 1) (.O 3)) [.ret (.index (.O 3) (.O 1))] [],
   .asg 4 (.compIf (.O 5) (.and2 (.isNone true (.idx (.O 3) (.O 5))) (.starts (.idx (.O 3) (.O 5)) (.O 1))) (.len (.O 3))),.ret (.ite (.and2 (.not (.O 2)) (.cmp .eq (.len (.O 4)) (.cst (.int 1)))) (.idx (.O 4) (.cst (.int 0))) (.usub 1))]⟩
noncomputable def Jh:AB Fn:=⟨3,[],7,[.ifs (.cmp .eq (.O 0) (.cst (.w 6))) [.ret (.cst (.w 6))] [],
   .asgT [3,4,5] (.O 0),.ifs (.cmp .eq (.O 1) (.cst (.w 10))) [.ret (.ite (.cmp .eq (.O 3) (.cst (.w 7))) (.cst (.w 6)) (.tup [.O 3,.lst [.cst .none],
   .dct0]))] [],
   .asg 6 (.call .BX [.O 0,.O 1,.O 2]),.ifs (.isT (.O 6) .str) [.ret (.lst [.cst (.w 11),.O 6])] [],
   .ifs (.and2 (.cmp .lt (.O 6) (.cst (.int 0))) (.cmp .eq (.O 3) (.cst (.w 7)))) [.ret (.cst (.w 6))] [],
   .ifs (.or2 (.cmp .lt (.O 6) (.cst (.int 0))) (.cmp .ge (.O 6) (.len (.O 4)))) [.ret (.lst [.cst (.w 11),.cst (.w 28)])] [],
   .ret (.ite (.cmp .eq (.O 3) (.cst (.w 7))) (.idx (.O 4) (.O 6)) (.tup [.O 3,.lst [.idx (.O 4) (.O 6)],
   .dct0]))]⟩
noncomputable def HL:AB Fn:=⟨1,[],4,[.asgT [1,2,3] (.O 0),.ret (.tup [.cst (.w 7),.comp (.tup [.O 1,.lst [.O 4],
   .dct0]) (.O 2),.O 3])]⟩
noncomputable def NW:AB Fn:=⟨3,[],13,[.ifs (.cmp .eq (.O 0) (.cst (.w 6))) [.ifs (.cmp .eq (.O 2) (.cst (.w 6))) [.ret (.cst (.w 6))] [],
   .asg 3 (.and2 (.cmp .ne (.idx (.O 2) (.cst (.int 0))) (.cst (.w 7))) (.cmp .eq (.len (.idx (.O 2) (.cst (.int 1)))) (.cst (.int 1)))),.asg 0 (.tup [.ite (.O 3) (.idx (.O 2) (.cst (.int 0))) (.cst (.w 7)),.lst [],
   .dct0])] [],
   .asgT [4,5,6] (.O 0),.asg 7 (.len (.O 5)),.asg 8 (.call .Br [.O 0]),.ifs (.cmp .eq (.O 1) (.cst (.w 10))) [.ret (.lst [.cst (.w 11),.cst (.w 28)])] [],
   .asg 9 (.call .BX [.O 0,.O 1,.cst (.bool true)]),.ifs (.isT (.O 9) .str) [.ret (.lst [.cst (.w 11),.O 9])] [],
   .ifs (.and2 (.cmp .eq (.O 2) (.cst (.w 6))) (.cmp .eq (.O 4) (.cst (.w 7)))) [.ifs (.or2 (.cmp .lt (.O 9) (.cst (.int 0))) (.cmp .ge (.O 9) (.O 7))) [.ret (.O 0)] [],
   .asg 10 (.dct0),.ifs (.isNone true (.O 8)) [.setI (.O 10) (.cst (.w 5)) (.tup [.cst (.w 9),.bin .add (.cutTo (.O 8) (.O 9)) (.cutFrom (.O 8) (.bin .add (.O 9) (.cst (.int 1)))),.dct0])] [],
   .ret (.tup [.O 4,.bin .add (.cutTo (.O 5) (.O 9)) (.cutFrom (.O 5) (.bin .add (.O 9) (.cst (.int 1)))),.O 10])] [],
   .asg 11 (.ite (.cmp .lt (.O 9) (.cst (.int 0))) (.lst [.O 1]) (.lst [])),.asg 9 (.ite (.cmp .lt (.O 9) (.cst (.int 0))) (.O 7) (.O 9)),.ifs (.cmp .ne (.O 4) (.cst (.w 7))) [.ifs (.or2 (.cmp .eq (.O 2) (.cst (.w 6))) (.cmp .eq (.idx (.O 2) (.cst (.int 1))) (.lst []))) [.ret (.lst [.cst (.w 11),.cst (.w 33)])] [],
   .ifs (.cmp .gt (.len (.idx (.O 2) (.cst (.int 1)))) (.cst (.int 1))) [.ret (.lst [.cst (.w 11),.cst (.w 34)])] [],
   .ifs (.cmp .eq (.idx (.O 2) (.cst (.int 0))) (.cst (.w 7))) [.asgT [4,5,6] (.call .Bp [.O 0])] [.ifs (.and2 (.cmp .eq (.idx (.O 2) (.cst (.int 0))) (.cst (.w 9))) (.cmp .eq (.O 4) (.cst (.w 8)))) [.asgT [4,5] (.tup [.cst (.w 9),.comp (.strOf (.O 13)) (.O 5)])] []]] [],
   .asg 5 (.listOf (.O 5)),.asg 6 (.dictOf (.O 6)),.ifs (.cmp .ge (.O 9) (.O 7)) [.augL 5 (.bin .mul (.lst [.ite (.cmp .eq (.O 4) (.cst (.w 7))) (.cst (.w 6)) (.cst .none)]) (.bin .sub (.bin .add (.O 9) (.cst (.int 1))) (.O 7))),.ifs (.or2 (.isNone true (.O 8)) (.cmp .ne (.O 11) (.lst []))) [.asg 12 (.bin .add (.ite (.isNone false (.O 8)) (.bin .mul (.lst [.cst (.w 16)]) (.O 7)) (.O 8)) (.O 11)),.setI (.O 6) (.cst (.w 5)) (.tup [.cst (.w 9),.bin .add (.O 12) (.bin .mul (.lst [.cst (.w 16)]) (.bin .sub (.bin .add (.O 9) (.cst (.int 1))) (.len (.O 12)))),.dct0])] []] [],
   .ifs (.cmp .eq (.O 4) (.cst (.w 7))) [.setI (.O 5) (.O 9) (.O 2)] [.setI (.O 5) (.O 9) (.ite (.and2 (.cmp .eq (.O 4) (.cst (.w 9))) (.cmp .eq (.idx (.O 2) (.cst (.int 0))) (.cst (.w 8)))) (.strOf (.idx (.idx (.O 2) (.cst (.int 1))) (.cst (.int 0)))) (.idx (.idx (.O 2) (.cst (.int 1))) (.cst (.int 0))))],
   .ret (.tup [.O 4,.O 5,.O 6])]⟩
noncomputable def K1:AB Fn:=⟨1,[],1,[.ifs (.cmp .eq (.O 0) (.cst (.w 10))) [.ret (.mk .vector [.cst (.w 8),.lst [.cst .none]])] [],
   .ret (.ite (.isT (.O 0) .int) (.mk .vector [.cst (.w 8),.lst [.O 0]]) (.mk .vector [.cst (.w 9),.lst [.O 0]]))]⟩
noncomputable def Kw:AB Fn:=⟨1,[],1,[.ret (.ite (.isT (.O 0) .str) (.lst [.cst (.w 11),.O 0]) (.call .AE [.O 0]))]⟩
noncomputable def Yy:AB Fn:=⟨1,[],19,[.asg 1 (.call .Du [.O 0]),.asg 2 (.call .CK [.O 1]),.asg 3 (.call .AZ [.O 1,.cst (.int 1)]),.asg 4 (.call .AE [.O 2]),.asg 5 (.call .AE [.O 3]),.asg 6 (.ite (.cmp .eq (.O 4) (.cst (.w 6))) (.cst (.int 0)) (.len (.idx (.O 4) (.cst (.int 1))))),.forE 7 (.lst [.bin .mod (.call .Ao [.O 1]) (.bin .add (.O 6) (.cst (.int 3))),.idx (.lst [.cst (.w 12),.cst (.w 14),.cst (.w 13),.cst (.w 17),.cst (.w 16)]) (.bin .mod (.call .Ao [.O 1]) (.cst (.int 5))),.cst (.w 10)]) [.asg 8 (.call .Co [.O 7]),.forE 9 (.lst [.cst (.bool true),.cst (.bool false)]) [.ifs (.cmp .ne (.call .AW [.kept (.call .Bd [.O 2,.lst [.O 8],
   .O 9])]) (.call .A6 [.O 4,.O 7,.O 9])) [.bad] []],
   .ifs (.cmp .ne (.call .AW [.kept (.call .Ay [.O 2,.lst [.O 8],
   .O 3,.lst []])]) (.call .Be [.O 4,.O 7,.O 5])) [.bad] [],
   .ifs (.or2 (.cmp .ne (.call .AE [.O 2]) (.O 4)) (.cmp .ne (.call .AE [.O 3]) (.O 5))) [.bad] []],
   .asg 10 (.idx (.lst [.cst (.w 12),.cst (.w 14),.cst (.w 13),.cst (.w 17)]) (.bin .mod (.call .Ao [.O 1]) (.cst (.int 4)))),.asg 11 (.kept (.call .C5 [.O 2,.O 10])),.ifs (.and2 (.cmp .ne (.O 4) (.cst (.w 6))) (.cmp .ne (.idx (.O 4) (.cst (.int 0))) (.cst (.w 7)))) [.ifs (.cmp .ne (.O 11) (.cst (.w 30))) [.bad] []] [.ifs (.cmp .ne (.call .AW [.O 11]) (.call .A6 [.O 4,.O 10,.cst (.bool false)])) [.bad] []],
   .asg 12 (.lst []),.asg 13 (.O 4),.ifs (.cmp .eq (.O 4) (.cst (.w 6))) [.asg 13 (.tup [.cst (.w 7),.lst [],
   .dct0])] [.ifs (.cmp .ne (.idx (.O 4) (.cst (.int 0))) (.cst (.w 7))) [.asg 13 (.call .Bp [.O 4])] []],
   .asg 14 (.ite (.and2 (.cmp .ne (.O 4) (.cst (.w 6))) (.and2 (.cmp .ne (.idx (.O 4) (.cst (.int 0))) (.cst (.w 7))) (.cmp .gt (.O 6) (.cst (.int 0))))) (.lst [.cst (.w 37)]) (.lst [])),.ifs (.or2 (.cmp .ne (.call .AW [.kept (.call .Bh [.O 2,.O 10,.O 3,.O 12])]) (.call .Be [.O 13,.O 10,.O 5])) (.cmp .ne (.O 12) (.O 14))) [.bad] [],
   .ifs (.and2 (.cmp .ne (.O 4) (.cst (.w 6))) (.and2 (.cmp .eq (.idx (.O 4) (.cst (.int 0))) (.cst (.w 7))) (.cmp .gt (.O 6) (.cst (.int 0))))) [.asg 15 (.bin .add (.cst (.int 1)) (.bin .mod (.call .Ao [.O 1]) (.O 6))),.asg 16 (.bin .add (.cst (.int 1)) (.bin .mod (.call .Ao [.O 1]) (.cst (.int 3)))),.asg 8 (.mk .vector [.cst (.w 8),.lst [.O 15,.O 16]]),.asg 17 (.idx (.idx (.O 4) (.cst (.int 1))) (.bin .sub (.O 15) (.cst (.int 1)))),.asg 14 (.ite (.cmp .eq (.O 17) (.cst (.w 6))) (.lst [.cst (.w 11),.cst (.w 28)]) (.call .A6 [.O 17,.O 16,.cst (.bool true)])),.ifs (.cmp .ne (.call .AW [.kept (.call .Bd [.O 2,.lst [.O 8],
   .cst (.bool true)])]) (.O 14)) [.bad] [],
   .asg 14 (.lst [.cst (.w 11),.cst (.w 36)]),.ifs (.cmp .ne (.O 17) (.cst (.w 6))) [.asg 18 (.call .Be [.O 17,.O 16,.O 5]),.asg 14 (.ite (.isT (.O 18) .list) (.O 18) (.call .Be [.O 4,.O 15,.O 18]))] [],
   .ifs (.cmp .ne (.call .AW [.kept (.call .Ay [.O 2,.lst [.O 8],
   .O 3,.lst []])]) (.O 14)) [.bad] []] [],
   .ret (.cmp .eq (.call .AE [.O 2]) (.O 4))]⟩
noncomputable def prog:Fn->AB Fn
 | Cm=>Gy
 | An=>Dj
 | AU=>IK
 | DJ=>Us
 | Bo=>Lo
 | CM=>PI
 | Bq=>K8
 | Ck=>Lh
 | IM=>XW
 | BJ=>Ts
 | B3=>Mk
 | Cn=>KZ
 | CL=>MF
 | AO=>MJ
 | C6=>P4
 | BZ=>Jv
 | B7=>Jj
 | DW=>Oj
 | CZ=>NV
 | Bb=>GT
 | Cs=>Jy
 | Ci=>M6
 | CD=>N5
 | Bm=>FK
 | A7=>HN
 | Bz=>Hn
 | Cw=>Mf
 | CQ=>Lg
 | Bs=>Kl
 | Bt=>HM
 | Ah=>HQ
 | Cq=>Ms
 | AM=>Gx
 | AN=>HT
 | BN=>Jg
 | A8=>G9
 | Bd=>M3
 | C5=>PD
 | AP=>F8
 | DG=>PA
 | BA=>Hv
 | B5=>IY
 | BD=>Hg
 | AX=>HP
 | AQ=>Js
 | AC=>IF
 | A5=>Jo
 | Ay=>GH
 | Bh=>G4
 | Du=>Oa
 | Ao=>Ly
 | AE=>Mp
 | BO=>Lj
 | AZ=>Mx
 | CK=>LW
 | Br=>HO
 | BX=>MK
 | A6=>Jh
 | Bp=>HL
 | Be=>NW
 | Co=>K1
 | AW=>Kw
 | AY=>Yy
noncomputable def Yx:Fn->String
 | Cm=>"Null.__init__"
 | An=>"Vector.__init__"
 | AU=>"Vector.copy"
 | DJ=>"room"
 | Bo=>"character"
 | CM=>"length"
 | Bq=>"is_vector"
 | Ck=>"is_atomic"
 | IM=>"own"
 | BJ=>"share"
 | B3=>"get_attr"
 | Cn=>"drop_attr"
 | CL=>"put_attr"
 | AO=>"names_of"
 | C6=>"dim_of"
 | BZ=>"kind_order"
 | B7=>"common_kind"
 | DW=>"to_text"
 | CZ=>"item_as"
 | Bb=>"is_atomic_kind"
 | Cs=>"with_names"
 | Ci=>"as_kind"
 | CD=>"as_list"
 | Bm=>"whole_subscripts"
 | A7=>"first_places"
 | Bz=>"partial_place"
 | Cw=>"one_name"
 | CQ=>"one_whole"
 | Bs=>"one_place"
 | Bt=>"lacking_item"
 | Ah=>"is_list_kind"
 | Cq=>"one_item"
 | AM=>"vector_element"
 | AN=>"element_step"
 | BN=>"index_parts"
 | A8=>"is_long_index"
 | Bd=>"element"
 | C5=>"dollar"
 | AP=>"converted_items"
 | DG=>"raised"
 | BA=>"extend_vector"
 | B5=>"first_count"
 | BD=>"delete_places"
 | AX=>"element_kind"
 | AQ=>"put_element"
 | AC=>"assign_step"
 | A5=>"assign_down"
 | Ay=>"assign_element"
 | Bh=>"assign_dollar"
 | Du=>"_law_row"
 | Ao=>"_law_next"
 | AE=>"_law_view"
 | BO=>"_law_names"
 | AZ=>"_law_made"
 | CK=>"_law_list"
 | Br=>"_law_names_of"
 | BX=>"_law_spot"
 | A6=>"_law_element"
 | Bp=>"_law_itemised"
 | Be=>"_law_put"
 | Co=>"_law_index"
 | AW=>"_law_shown"
 | AY=>"law"
noncomputable def Sq:Fn->List String
 | Cm=>["self"]
 | An=>["self","kind","items","attrs"]
 | AU=>["self","attrs"]
 | DJ=>["n"]
 | Bo=>["items"]
 | CM=>["v","kind"]
 | Bq=>["v"]
 | Ck=>["v"]
 | IM=>["v"]
 | BJ=>["v"]
 | B3=>["v","name"]
 | Cn=>["v","name"]
 | CL=>["v","name","value"]
 | AO=>["v","tag","dims","rows","names"]
 | C6=>["v","dims"]
 | BZ=>["kind","kinds"]
 | B7=>["kinds","names","most","kind"]
 | DW=>["kind","item"]
 | CZ=>["kind","item","to","notes"]
 | Bb=>["kind"]
 | Cs=>["v","names"]
 | Ci=>["v","kind","notes","items"]
 | CD=>["v"]
 | Bm=>["ix","found","item"]
 | A7=>["names","table","i","name"]
 | Bz=>["item","names","table","found","i"]
 | Cw=>["item","names","exact"]
 | CQ=>["item","n"]
 | Bs=>["ix","n","names","exact","kind"]
 | Bt=>["kind"]
 | Ah=>["kind"]
 | Cq=>["v","place"]
 | AM=>["v","ix","exact","n","place"]
 | AN=>["v","ix","exact","tags","place"]
 | BN=>["ix"]
 | A8=>["ix"]
 | Bd=>["v","indexes","exact","ix","parts","i"]
 | C5=>["v","name","tags","place"]
 | AP=>["v","kind","notes"]
 | DG=>["v","kind","notes","attrs"]
 | BA=>["v","count","names","added","n","i","texts"]
 | B5=>["places","count","place"]
 | BD=>["v","places","names","count","gone","place","items","kept_names","i","inside","result","name"]
 | AX=>["v","value"]
 | AQ=>["v","place","name","value","notes","names","kind","result","added"]
 | AC=>["v","ix","value","notes","kind","n","place","name"]
 | A5=>["v","parts","value","notes","inner"]
 | Ay=>["v","indexes","value","notes","place","ix"]
 | Bh=>["v","name","value","notes"]
 | Du=>["script","row","cell","figure","lap"]
 | Ao=>["row"]
 | AE=>["v","attrs"]
 | BO=>["row","many"]
 | AZ=>["row","deep","kind","items","v","many"]
 | CK=>["row","kind","many","v"]
 | Br=>["seen"]
 | BX=>["seen","key","exact","names","begun"]
 | A6=>["seen","key","exact","kind","items","attrs","spot"]
 | Bp=>["seen","kind","items","attrs"]
 | Be=>["seen","key","put","plain_one","kind","items","attrs","n","names","spot","left","added","longer"]
 | Co=>["key"]
 | AW=>["told"]
 | AY=>["script","row","v","value","held","put","n","key","ix","exact","name","told","notes","base","due","first","second","inner","changed"]
noncomputable def initOf:Dx->Fn
 | .null=> .Cm
 | .vector=> .An
noncomputable def F7(i j:Nat):Option Bool:=if 12<=i/\i < 18/\12<=j/\j < 18 then some (KK.contains (i,j))else Option.none
theorem zz{a b c:Nat}(h:a<=b)(e:Nat.ble b c=true):a<=c:=Nat.le_trans h (Nat.le_of_ble_eq_true e)
theorem bD{a b c:Nat}(h:a < b)(e:Nat.ble b c=true):a<=c:=zz (Nat.le_of_lt h) e
theorem cK{x c k m:Nat}(e:x=c)(h:c < k)(b:Nat.ble k m=true):x<=m:=e▸Nat.le_trans (Nat.le_of_lt h) (Nat.le_of_ble_eq_true b)
theorem dW{x c k m:Nat}(e:x=1+c)(h:c < k)(b:Nat.ble k m=true):x<=m:=by rw[e,Nat.add_comm];exact Nat.le_trans h (Nat.le_of_ble_eq_true b)
theorem VA{c k m:Nat}(h:c < k)(b:Nat.ble k m=true):1+c<=m:=dW rfl h b
theorem fO{p n c k:Nat}(h:p < c)(b:Nat.ble c k=true):p+1 - n<=k:=Nat.le_trans (Nat.sub_le _ _) (Nat.le_trans h (Nat.le_of_ble_eq_true b))
theorem dM{a p:Nat}(h:a<=p+1):(p:Int)+1 - (a:Int)=((p+1 - a:Nat):Int):=(Int.ofNat_sub h).symm
theorem gK{a p:Nat}(h:a<=p):(p:Int)+1 - (a:Int)=((p+1 - a:Nat):Int):=dM (Nat.le_succ_of_le h)
theorem bO{i n l:Nat}(h:i+(n+1)=l):i+1+n=l:=by rw[<-h,Nat.add_assoc,Nat.add_comm 1]
theorem cV{i n l:Nat}(h:i+(n+1)=l):i < l:=h▸Nat.lt_add_of_pos_right (Nat.succ_pos n)
theorem cU{n:Nat}(h:((n+1+1:Nat):Int)=1):False:=by cases n<;>cases h
theorem fM{a p:Nat}(h:a<=p):a+(p+1 - a)=max a (p+1):=by rw[Nat.add_sub_cancel' (Nat.le_succ_of_le h),Nat.max_eq_right (Nat.le_succ_of_le h)]
theorem fH{a p:Nat}(h:¬a<=p):a=max a (p+1):=(Nat.max_eq_left (Nat.gt_of_not_le h)).symm
theorem fA{a p:Nat}(h:a<=p):p < a+(p+1 - a):=by rw[Nat.add_sub_cancel' (Nat.le_succ_of_le h)];exact Nat.lt_succ_self p
theorem gH{a p c k:Nat}(h:p < c)(g:a<=p)(b:Nat.ble c k=true):a+(p+1 - a)<=k:=by rw[Nat.add_sub_cancel' (Nat.le_succ_of_le g)];exact Nat.le_trans h (Nat.le_of_ble_eq_true b)
theorem qA{x y k g:Nat}(h:x+y<=g)(b:Nat.ble k y=true):k<=g:=Nat.le_trans (Nat.le_of_ble_eq_true b) (Nat.le_trans (Nat.le_add_left _ _) h)
theorem qD{y k g a b:Nat}(h:y<=g+a)(e:Nat.ble (k+a) (y+b)=true):k<=g+b:=by
 have:=Nat.add_le_add_right h b
 refine Nat.le_of_add_le_add_right (Nat.le_trans (Nat.le_of_ble_eq_true e) (Nat.le_trans this (Nat.le_of_eq ?_)))
 rw[Nat.add_assoc,Nat.add_assoc,Nat.add_comm a]
theorem qB{x y k g a b:Nat}(h:x+y<=g+a)(e:Nat.ble (k+a) (y+b)=true):k<=g+b:=qD (Nat.le_trans (Nat.le_add_left _ _) h) e
theorem qC{x y l c g a b:Nat}(i:l<=c)(h:x+y<=g+a)(e:Nat.ble (1+c+1+a) (y+b)=true):1+l+1<=g+b:=Nat.le_trans (Nat.succ_le_succ (Nat.add_le_add_left i 1)) (qB h e)
theorem gP{y l c g a b:Nat}(i:l<=c)(h:y<=g+a)(e:Nat.ble (1+c+1+a) (y+b)=true):1+l+1<=g+b:=Nat.le_trans (Nat.succ_le_succ (Nat.add_le_add_left i 1)) (qD h e)
theorem qF{y k g:Nat}(h:y<=g)(b:Nat.ble k y=true):g=g - k+k:=(Nat.sub_add_cancel (Nat.le_trans (Nat.le_of_ble_eq_true b) h)).symm
theorem qE{x y k g:Nat}(h:x+y<=g)(b:Nat.ble k y=true):g=g - k+k:=(Nat.sub_add_cancel (qA h b)).symm
theorem qG{a b:Nat}(h:a < b):Int.ofNat a < Int.ofNat b:=Int.ofNat_lt.mpr h
theorem qH{a b c:Nat}(h:a<=b)(e:Nat.ble b c=true):Int.ofNat a<=Int.ofNat c:=Int.ofNat_le.mpr (Nat.le_trans h (Nat.le_of_ble_eq_true e))
theorem qI{a b c:Nat}(h:a < b)(e:Nat.ble b c=true):(a:Int)+1<=Int.ofNat c:=qH (a:=a+1) h e
theorem qK{a b:Nat}:(0:Int) < (a:Int)+Int.ofNat (b+1):=Int.ofNat_lt.mpr (Nat.succ_pos (a+b))
theorem qL{i:Nat}:((i+1:Nat):Int) - 1=(i:Int):=Int.add_sub_cancel i 1
theorem qM{c n:Nat}(h:c+1<=n)(e:(n:Int)=0):False:=by cases n;exact Nat.not_succ_le_zero _ h;cases e
theorem qN{n:Nat}(e:((n+1:Nat):Int)=0):False:=by cases e
theorem qO{x a b:Nat}(h:x<=a+1+b):x<=a+(b+1):=by rw[Nat.add_assoc,Nat.add_comm 1]at h;exact h
theorem qP{x a b:Nat}(h:a+(b+1)<=x):a+1+b<=x:=by rw[Nat.add_assoc,Nat.add_comm 1];exact h
theorem qQ{a b c k:Nat}(h:a+b<=c)(e:Nat.ble (c+1) k=true):a < k:=Nat.le_trans (Nat.succ_le_succ (Nat.le_trans (Nat.le_add_right _ _) h)) (Nat.le_of_ble_eq_true e)
theorem qR{a b c:Nat}(h:a+(b+1)<=c):a < c:=Nat.le_trans (Nat.succ_le_succ (Nat.le_add_right a b)) h
theorem qU{j l t c k:Nat}(h:j < l)(e:l=t)(g:t<=c)(b:Nat.ble c k=true):j<=k:=Nat.le_trans (Nat.le_of_lt (e▸h)) (Nat.le_trans g (Nat.le_of_ble_eq_true b))
theorem qV{a b k:Nat}(h:a<=k)(e:k=b)(t:Nat.ble (b+1) a=true):False:=Nat.lt_irrefl b (Nat.le_trans (Nat.le_of_ble_eq_true t) (e▸h))
theorem qW{X t p a b:Nat}(e:X=max t (p+1))(h:t<=a)(g:p<=b)(u:Nat.ble (b+1) a=true):X<=a:=e▸Nat.max_le.mpr ⟨h,Nat.le_trans (Nat.succ_le_succ g) (Nat.le_of_ble_eq_true u)⟩
theorem qX{j t a b k:Nat}(h:j < t+a)(g:t<=b)(u:Nat.ble (b+a) k=true):j<=k:=Nat.le_trans (Nat.le_of_lt h) (Nat.le_trans (Nat.add_le_add_right g a) (Nat.le_of_ble_eq_true u))
theorem qY{f n q a k:Nat}(h:f<=n+1)(e:n=q)(g:q<=a)(u:Nat.ble (a+2) k=true):f < k:=Nat.le_trans (Nat.succ_le_succ (Nat.le_trans h (Nat.succ_le_succ (e▸g)))) (Nat.le_of_ble_eq_true u)
theorem qZ{o i n x a k:Nat}(h:o<=i)(e:i+(n+1)=x)(g:x<=a)(u:Nat.ble a k=true):o < k:=Nat.lt_of_le_of_lt h (Nat.lt_of_lt_of_le (cV e) (Nat.le_trans g (Nat.le_of_ble_eq_true u)))
theorem q1{a z k:Nat}(h:a+31 * (z+1)<=k):a+1+30<=k:=Nat.le_trans (Nat.add_le_add_left (Nat.le_add_left 31 (31 * z)) a) h
theorem q2{b a z k:Nat}(h:a+31 * (z+1)<=k)(g:b<=a+1+30):b+31 * z<=k:=Nat.le_trans (Nat.add_le_add_right g (31 * z)) (Nat.le_trans (Nat.le_of_eq (by rw[Nat.mul_succ,Nat.add_comm (31 * z) 31,<-Nat.add_assoc])) h)
theorem q3{i l:Nat}(h:¬i < l)(e:i - l=0):i=l:=Nat.le_antisymm (Nat.le_of_sub_eq_zero e) (Nat.le_of_not_lt h)
theorem q4{l k:Nat}:0+31 * min 40 l<=k+1240:=by rw[Nat.zero_add];exact Nat.le_trans (Nat.mul_le_mul_left 31 (Nat.min_le_left 40 _)) (Nat.le_add_left _ _)
theorem q5{x a b c:Nat}(h:x<=a+b):x+c<=a+c+b:=by rw[Nat.add_right_comm];exact Nat.add_le_add_right h c
theorem dA{x c e L:Nat}(h:x+c < L)(b:Nat.ble e c=true):x+e < L:=Nat.lt_of_le_of_lt (Nat.add_le_add_left (Nat.le_of_ble_eq_true b) x) h
theorem dF{a w n y c e L:Nat}(h:a+n+y+c < L)(b:Nat.ble (w+e) c=true):a+w+n+y+e < L:=by
 refine Nat.lt_of_le_of_lt (Nat.le_of_eq ?_) (dA h b)
 rw[Nat.add_right_comm a w,Nat.add_right_comm (a+n) w,Nat.add_assoc _ w]
theorem YT{a w n y c L:Nat}(h:a+n+y+c < L)(b:Nat.ble w c=true):a+w+n+y < L:=dF (e:=0) h b
theorem dD{a n y k L:Nat}(h:a+n+y+(k+1) < L):a+1+n+y+k < L:=by rw[Nat.add_comm k 1,<-Nat.add_assoc,Nat.add_right_comm _ y 1,Nat.add_right_comm _ n 1]at h;exact h
theorem gT{a n y k L:Nat}(h:a+n+y+(k+1) < L):a+1+n+y < L:=Nat.lt_of_le_of_lt (Nat.le_add_right _ k) (dD h)
theorem dG{a n y k L:Nat}(h:a+n+y+20 * (k+1) < L):a+3+n+y+20 * k < L:=by
 have:a+3+n+y+20 * k+17=a+n+y+20 * (k+1):=by rw[Nat.mul_succ,<-Nat.add_assoc,Nat.add_assoc _ _ 17,Nat.add_assoc _ _ 20,Nat.add_right_comm a 3,Nat.add_right_comm _ 3,Nat.add_assoc _ 3,Nat.add_left_comm 3]
 exact Nat.lt_of_le_of_lt (Nat.le_add_right _ 17) (this▸h)
theorem gR{a n y k L:Nat}(h:a+n+y+20 * (k+1) < L):a+3+n+y < L:=Nat.lt_of_le_of_lt (Nat.le_add_right _ _) (dG h)
theorem dH{a c d y e L:Nat}(h:a+c * (d+1)+y < L)(b:Nat.ble e c=true):a+c * d+y+e < L:=by
 rw[Nat.mul_succ,<-Nat.add_assoc,Nat.add_right_comm]at h;exact dA h b
theorem gX{a c d y L:Nat}(h:a+c * (d+1)+y < L):a+c * d+y < L:=dH (e:=0) h (by cases c<;>rfl)
theorem dI{a n y e L:Nat}(h:a+n+y < L)(b:Nat.ble e y=true):a+e < L:=by rw[Nat.add_right_comm]at h;exact dA (Nat.lt_of_le_of_lt (Nat.le_add_right _ n) h) b
theorem dJ{x d y e z L:Nat}(h:z+d < L)(b:Nat.ble (x+y+e) z=true):x+d+y+e < L:=by
 rw[Nat.add_comm]at h;have:=dA h b;rw[<-Nat.add_assoc,<-Nat.add_assoc,Nat.add_comm d x]at this;exact this
theorem fV{x d y z L:Nat}(h:z+d < L)(b:Nat.ble (x+y) z=true):x+d+y < L:=dJ (e:=0) h b
theorem dK{k n:Nat}(h:k < n):n+1 - (k+1) < n+1 - k:=Nat.sub_succ_lt_self _ _ (Nat.lt_succ_of_lt h)
theorem e1{lo hi:Int}(h:¬lo < hi):((hi - lo).toNat:Int) - ((0:Nat):Int)=0:=by rw[Int.toNat_of_nonpos (Int.sub_nonpos_of_le (Int.not_lt.mp h))];rfl
theorem e2{lo hi:Int}(h:lo < hi):((hi - lo).toNat:Int) - ((0:Nat):Int)=hi - lo:=(Int.sub_zero _).trans (Int.toNat_of_nonneg (Int.sub_nonneg_of_le (Int.le_of_lt h)))
theorem e3{a b:Int}:a - b - 1=a - (b+1):=Int.sub_sub a b 1
theorem e4{k a:Nat}(h:k < a):(0:Int) < (a:Int) - (k:Int):=Int.sub_pos_of_lt (Int.ofNat_lt.mpr h)
theorem e5{k:Int}{n:Nat}(h:0<=k)(g:k.toNat < n):0<=k/\k < (n:Int):=⟨h,(Int.toNat_lt h).mp g⟩
theorem e6{a b k:Nat}(h:a+b < k):a < k:=Nat.lt_of_le_of_lt (Nat.le_add_right a b) h
theorem e7{a:Nat}(h:a+1=a):False:=Nat.succ_ne_self a h
theorem e8{a b:Nat}(g:b≠0)(h:a+b=a):False:=g (Nat.add_left_cancel (h:a+b=a+0))
theorem e9{j s:Nat}(h:j < s)(g:min s s<=j):False:=Nat.lt_irrefl _ (Nat.lt_of_lt_of_le h ((Nat.min_self s).symm▸g:s<=j))
theorem eA{i l:Nat}(h:¬i < l)(g:i < l+1):i=l:=Nat.le_antisymm (Nat.le_of_lt_succ g) (Nat.le_of_not_lt h)
theorem eB{k:Int}{a b:Nat}(h:k<=Int.ofNat a)(e:Nat.ble (a+1) b=true):k < Int.ofNat b:=Int.lt_of_le_of_lt h (qG (Nat.le_of_ble_eq_true e))
theorem eC{k:Int}{a:Nat}(h:0<=k):Int.negSucc a<=k:=Int.le_trans (Int.le_of_lt (Int.negSucc_lt_zero a)) h
theorem f1{a d c k:Nat}(h:a<=d)(g:d<=c)(b:Nat.ble c k=true):a+(d - a)<=k:=by rw[Nat.add_sub_cancel' h];exact Nat.le_trans g (Nat.le_of_ble_eq_true b)
theorem f2{a p:Nat}:p < a+(p+1 - a):=Nat.sub_le_iff_le_add'.mp (Nat.le_refl _)
theorem f3{a p c k:Nat}(z:(p:Int)+1 - (a:Int)=((p+1 - a:Nat):Int))(h:p < c)(b:Nat.ble c k=true):a+(p+1 - a)<=k:=f1 (Int.ofNat_le.mp (Int.le_of_sub_nonneg (z▸Int.natCast_nonneg _:(0:Int)<=((p+1:Nat):Int) - a))) h b
theorem f4{n l a b:Nat}(h:n < l)(g:l<=a)(t:Nat.ble a b=true):0<=Int.ofNat n/\Int.ofNat n<=Int.ofNat b:=⟨Int.natCast_nonneg _,Int.ofNat_le.mpr (Nat.le_trans (Nat.le_of_lt h) (Nat.le_trans g (Nat.le_of_ble_eq_true t)))⟩
theorem f5{i p:Nat}(h:¬i=p)(g:i<=p):p - i=p - (i+1)+1:=by
 obtain⟨k,rfl⟩:=Nat.exists_eq_add_of_lt (Nat.lt_of_le_of_ne g h)
 rw[Nat.add_assoc,Nat.add_sub_cancel_left,<-Nat.add_assoc,Nat.add_right_comm,Nat.add_sub_cancel_left]
theorem f6{p x:Nat}(h:p < x)(g:(p:Int)+1 > (x:Int)):False:=Nat.not_le_of_gt (Int.ofNat_lt.mp g) h
theorem f7{a b c:Nat}{h:¬a=b}(e:a=c)(g:b=c):False:=h (e.trans g.symm)
theorem f8{x c:Nat}:0 < x+(c+1):=Nat.succ_pos _
theorem f9{i l a k:Nat}(h:l<=a)(b:Nat.ble (a+a) k=true):min i l+(l - (i+1))<=k:=Nat.le_trans (Nat.add_le_add (Nat.le_trans (Nat.min_le_right _ _) h) (Nat.le_trans (Nat.sub_le _ _) h)) (Nat.le_of_ble_eq_true b)
theorem g2{m n c k:Nat}(h:n<=c)(g:m < n)(e:Nat.ble c k=true):Int.ofNat m < Int.ofNat k:=qG (Nat.lt_of_lt_of_le g (Nat.le_trans h (Nat.le_of_ble_eq_true e)))
theorem g3{x y p:Nat}(e:x=p)(h:y < x):y < p:=e▸h
theorem g4{j b c:Nat}(g:b+j < c)(h:Nat.ble c b=true):False:=Nat.lt_irrefl _ (Nat.lt_of_lt_of_le g (Nat.le_trans (Nat.le_of_ble_eq_true h) (Nat.le_add_right _ _)))
theorem g5{x a k:Nat}(h:x<=a)(b:Nat.ble (a+1) k=true):x < k:=Nat.le_trans (Nat.succ_le_succ h) (Nat.le_of_ble_eq_true b)
theorem g8{k c:Nat}(h:k=8\/k=9)(e:k=c)(b:(Nat.beq c 8||Nat.beq c 9)=false):False:=by subst e;rcases h with rfl | rfl<;>cases b
theorem g9{k c:Nat}(h:k=7\/(k=8\/k=9))(e:k=c)(b:(Nat.beq c 7||(Nat.beq c 8||Nat.beq c 9))=false):False:=by subst e;rcases h with rfl | rfl | rfl<;>cases b
theorem h2{l d g:Nat}(h:l<=8)(e:13 * (d+1)+20<=g+9):13 * d+20+l+1<=g+5:=by
 refine Nat.le_of_add_le_add_right (b:=4) (Nat.le_trans ?_ e)
 show 13 * d+20+l+5<=13 * d+13+20
 rw[Nat.add_assoc (13 * d),Nat.add_assoc (13 * d),Nat.add_assoc (13 * d) 13]
 exact Nat.add_le_add_left (Nat.add_le_add_right (Nat.add_le_add_left h 20) 5) _
theorem h3{a b:Nat}(h:a < b)(e:a=b):False:=Nat.ne_of_lt h e
theorem i1{k:Int}{a b:Nat}(h:k<=Int.ofNat a)(e:Nat.ble a b=true):1 * k.toNat<=b:=by rw[Nat.one_mul];exact zz (Int.toNat_le.mpr h) e
theorem i2{i:Int}{n:Nat}(h:0<=i/\i<=(n:Int)):i.natAbs<=n:=by obtain⟨k,rfl⟩:=Int.eq_ofNat_of_zero_le h.1;exact Int.ofNat_le.mp h.2
theorem i3{a p q:Nat}(h:a<=p)(g:p<=q):a+(p - a)=min p q:=(Nat.add_sub_cancel' h).trans (Nat.min_eq_left g).symm
theorem WO{p:Prop}{b:Bool}(h:b=true)(g: @Bool.rec (fun J=>Prop) True p b):p:=by subst h;exact g
set_option hygiene false in
local macro_rules | `(tactic| obtain $p:rcasesPatMed := $v:term) => `(tactic| (refine Classical.byContradiction fun hN => ?_; rcases $v:term with $p:rcasesPatMed <;> (refine hN ?_; clear hN)))
set_option hygiene false in
local macro_rules | `(tactic| cases $x:ident $a:inductionAlts) => do let l <- #[`Option.casesOn, `List.casesOn, `Aj.casesOn, `Except.casesOn, `Bf.casesOn, `Em.casesOn, `Nat.casesAuxOn, `Or.casesOn, `LV.casesOn, `TV.casesOn, `LC.casesOn, `Nd.casesOn, `Bool.casesOn, `R.casesOn, `V.casesOn, `Pl.casesOn, `Af.casesOn, `Oc.casesOn, `Value.casesOn, `PySem.Expr.casesOn, `Fn.casesOn, `PySem.Stmt.casesOn, `PySem.Const.casesOn, `PySem.Data.casesOn, `UV.casesOn, `U3.casesOn, `Ty.casesOn, `Dx.casesOn, `Ct.casesOn, `Sc.casesOn, `OR.casesOn, `OV.casesOn].mapM fun t => `(tacticSeq| induction $x:ident using $(Lean.mkIdent t):ident $a:inductionAlts); let l := l.push (<- `(tacticSeq| cases ($x) $a:inductionAlts)); `(tactic| first $[| $l:tacticSeq]*)
set_option hygiene false in
local macro_rules | `(tactic| cases $h:ident : $e:term $a:inductionAlts) => `(tactic| (generalize $h : $e = yZ; cases yZ $a:inductionAlts))
set_option hygiene false in
local macro_rules | `(tactic| cases $h:ident) => do let i <- #[4, 3, 2, 1].mapM fun n => (do let v := (Array.range n).map fun k => Lean.mkIdent (.mkSimple s!"hX{k + 1}"); let t <- v.foldlM (fun t i => `(tactic| $t <;> cases $i:ident)) (<- `(tactic| skip)); `(tacticSeq| injection $h:ident with $[$v:ident]*; $t:tactic)); let l <- #[`Option.casesOn, `List.casesOn, `Aj.casesOn, `Except.casesOn, `Bf.casesOn, `Em.casesOn, `Nat.casesAuxOn, `Or.casesOn, `LV.casesOn, `TV.casesOn, `LC.casesOn, `Nd.casesOn, `Bool.casesOn, `R.casesOn, `V.casesOn, `Pl.casesOn, `Af.casesOn, `Oc.casesOn, `Value.casesOn, `PySem.Expr.casesOn, `Fn.casesOn, `PySem.Stmt.casesOn, `PySem.Const.casesOn, `PySem.Data.casesOn, `UV.casesOn, `U3.casesOn, `Ty.casesOn, `Dx.casesOn, `Ct.casesOn, `Sc.casesOn, `OR.casesOn, `OV.casesOn].mapM fun t => `(tacticSeq| induction $h:ident using $(Lean.mkIdent t):ident); let l := #[<- `(tacticSeq| (injection $h:ident; done)), <- `(tacticSeq| rcases $h:ident with rfl)] ++ i ++ l ++ #[<- `(tacticSeq| cases ($h))]; `(tactic| first $[| $l:tacticSeq]*)
namespace P
noncomputable def BI:= @Nat.le_of_ble_eq_true
noncomputable def Ew:= @List.getElem?_eq_some_iff
noncomputable def gL:= @List.forall_mem_cons
noncomputable def C1:= @List.length_append
noncomputable def PQ:= @Bool.and_eq_true
noncomputable def MU:= @List.getElem?_append_left
noncomputable def Il:= @List.getElem?_set_ne
noncomputable def Gq:= @List.getElem?_set_self
noncomputable abbrev HR(Aa:List Int)(d:Nat):Fn->List V->M V:=DY prog Aa F7 initOf d
noncomputable abbrev CS(Aa:List Int)(d:Nat):Ja Fn:={ Aa:=Aa,bg:=F7,initOf:=initOf,call:=HR Aa d}
inductive Nd where | lst | tup | dct (ks:List Nat) | ins (c:Dx) (ks:List Nat)
noncomputable def Nd.ctorIdx(x:Nd):Nat:= @Nd.casesOn (fun J=>Nat) x 0 1 (fun J=>2) (fun J J=>3)
inductive TV where | s (v:V) | n (k:Nd) (xs:List TV) | u
noncomputable def TV.ctorIdx(x:TV):Nat:= @TV.casesOn (fun J=>Nat) x (fun J=>0) (fun J J=>1) 2
inductive LV where | f (t:TV) | r (i:Nat)
noncomputable def LV.ctorIdx(x:LV):Nat:= @LV.casesOn (fun J=>Nat) x (fun J=>0) (fun J=>1)
inductive LC where | lst (b:Bool) (xs:List TV) | dct (kvs:List (Nat×TV)) | dci (kvs:List (Int×TV)) | ins (c:Dx) (fs:List (Nat×LV)) | fz (t:TV)
noncomputable def LC.ctorIdx(x:LC):Nat:= @LC.casesOn (fun J=>Nat) x (fun J J=>0) (fun J=>1) (fun J=>2) (fun J J=>3) (fun J=>4)
noncomputable def Nd.cell(k:Nd)(vs:List V):Af:=k.rec (.list vs) (.tup vs) (fun ks=> .dictW (ks.zip vs)) (fun c ks=> .inst c (ks.zip vs))
noncomputable def Nd.bd(k:Nd):Nat:=k.rec 5000 5000 (fun J=>90) (fun J J=>90)
noncomputable def E8(fs:List (Nat×V)):List (Nat×V):=fs.filter fun p=>p.1 != 3
noncomputable def dm(c:Af):Af:=c.rec .list .tup .dictW .dictP .dictI (fun k fs=>(Nat.ble fs.length ((E8 fs).length+1)).rec (.dictP []) (.inst k (E8 fs))) .tab
noncomputable def gd(H:MH)(a:Nat):Option Af:=(H[a]?).map dm
inductive Rs{α β:Type}(R:α->β->Prop):List α->List β->Prop
 | nil:Rs R [] []
 | cons {a:α} {b:β} {as:List α} {bs:List β}:R a b->Rs R as bs->Rs R (a::as) (b::bs)
section
variable{α β:Type}{R R':α->β->Prop}
theorem Rs.len{as:List α}{bs:List β}(h:Rs R as bs):bs.length=as.length:=by
 induction h with
 | nil=>rfl
 | cons _ _ ih=>exact congrArg (·+1) ih
theorem Rs.mono(f:∀a b,R a b->R' a b){as:List α}{bs:List β}(h:Rs R as bs):Rs R' as bs:=by
 induction h with
 | nil=>exact .nil
 | cons x _ ih=>exact .cons (f _ _ x) ih
theorem Rs.get{as:List α}{bs:List β}(h:Rs R as bs):∀{i:Nat} {a:α},as[i]? =some a->∃b,bs[i]? =some b/\R a b:=by
 induction h with
 | nil=>intro i a e;cases e
 | cons x _ ih=>
  intro i a e
  cases i with
  | zero=>cases e;exact⟨_,rfl,x⟩
  | succ i=>exact ih e
theorem Rs.app{as as':List α}{bs bs':List β}(h:Rs R as bs)(h':Rs R as' bs'):Rs R (as++as') (bs++bs'):=by
 induction h with
 | nil=>exact h'
 | cons x _ ih=>exact .cons x ih
theorem Rs.take{as:List α}{bs:List β}(h:Rs R as bs):∀i,Rs R (as.take i) (bs.take i):=by
 induction h with
 | nil=>intro i;cases i<;>exact .nil
 | cons x _ ih=>intro i;cases i with
  | zero=>exact .nil
  | succ i=>exact .cons x (ih i)
theorem Rs.drop{as:List α}{bs:List β}(h:Rs R as bs):∀i,Rs R (as.drop i) (bs.drop i):=by
 induction h with
 | nil=>intro i;cases i<;>exact .nil
 | cons x y ih=>intro i;cases i with
  | zero=>exact .cons x y
  | succ i=>exact ih i
theorem Rs.set{as:List α}{bs:List β}(h:Rs R as bs){a:α}{b:β}(q:R a b):∀i,Rs R (as.set i a) (bs.set i b):=by
 induction h with
 | nil=>intro i;exact .nil
 | cons x y ih=>intro i;cases i with
  | zero=>exact .cons q y
  | succ i=>exact .cons x (ih i)
theorem Rs.rep{a:α}{b:β}(q:R a b):∀n,Rs R (List.replicate n a) (List.replicate n b)
 | 0=> .nil
 | n+1=> .cons q (Rs.rep q n)
theorem Rs.rev{as:List α}{bs:List β}(h:Rs R as bs):Rs R as.reverse bs.reverse:=by
 induction h with
 | nil=>exact .nil
 | cons x _ ih=>rw[List.reverse_cons,List.reverse_cons];exact ih.app (.cons x .nil)
theorem Rs.snoc{as:List α}{a:α}:∀{bs:List β},Rs R (as++[a]) bs->∃bs' b,bs=bs'++[b]/\Rs R as bs'/\R a b:=by
 induction as with
 | nil=>intro bs h;cases h with | cons x y=>cases y;exact⟨[],_,rfl,.nil,x⟩
 | cons c as ih=>
  intro bs h
  cases h with
  | cons x y=>
   obtain⟨bs',b,e,p,q⟩:=ih y
   exact⟨_::bs',b,congrArg (List.cons _) e,.cons x p,q⟩
end
noncomputable def KR{κ α β:Type}(R:α->β->Prop)(p:κ×α)(q:κ×β):Prop:=p.1=q.1/\R p.2 q.2
section
variable{α β:Type}{R:α->β->Prop}
theorem Sr{as:List α}{bs:List β}(h:Rs R as bs):∀ks:List Nat,Rs (KR R) (ks.zip as) (ks.zip bs):=by
 induction h with
 | nil=>intro ks;cases ks<;>exact .nil
 | cons x _ ih=>intro ks;cases ks with
  | nil=>exact .nil
  | cons k ks=>exact .cons ⟨rfl,x⟩ (ih ks)
noncomputable def look{κ α:Type}[DecidableEq κ](k:κ):List (κ×α)->Option α
 | []=>none
 | p::r=>p.rec fun a b=>if a=k then some b else look k r
noncomputable def put{κ α:Type}[DecidableEq κ](k:κ)(v:α):List (κ×α)->List (κ×α)
 | []=>[(k,v)]
 | p::r=>if p.1=k then(k,v)::r else p::put k v r
theorem Ez(k:Nat):∀l:List (Nat×V),Dr k l=look k l
 | []=>rfl
 | p::r=>by unfold Dr;rw[Ez k r];rfl
theorem L4(k:Int):∀l:List (Int×V),Fi k l=look k l
 | []=>rfl
 | p::r=>by unfold Fi;rw[L4 k r];rfl
theorem Ih(k:Nat)(v:V):∀l:List (Nat×V),EX k v l=put k v l
 | []=>rfl
 | p::r=>by unfold EX put;rw[Ih k v r]
theorem OM(k:Int)(v:V):∀l:List (Int×V),LT k v l=put k v l
 | []=>rfl
 | p::r=>by unfold LT put;rw[OM k v r]
theorem Rs.put{κ:Type}[DecidableEq κ]{k:κ}{as:List (κ×α)}{bs:List (κ×β)}(h:Rs (KR R) as bs){a:α}{b:β}(q:R a b):Rs (KR R) (put k a as) (put k b bs):=by
 induction h with
 | nil=>exact .cons ⟨rfl,q⟩ .nil
 | @cons x y r s hx hr ih=>
  unfold P.put
  rw[<-hx.1]
  by_cases e:x.1=k
  .rw [if_pos e,if_pos e];exact .cons ⟨rfl,q⟩ hr
  .rw [if_neg e,if_neg e];exact .cons hx ih
theorem HU{κ:Type}[DecidableEq κ]{k:κ}{v:α}:∀{l:List (κ×α)},(put k v l).length<=l.length+1
 | []=>Nat.le_refl _
 | p::r=>by
  unfold P.put
  by_cases e:p.1=k
  .rw [if_pos e];exact Nat.le_succ _
  .rw [if_neg e];exact Nat.succ_le_succ HU
inductive OR{α β:Type}(R:α->β->Prop):Option α->Option β->Prop
 | no:OR R none none
 | so {a:α} {b:β}:R a b->OR R (some a) (some b)
theorem Rs.look{κ:Type}[DecidableEq κ]{k:κ}{as:List (κ×α)}{bs:List (κ×β)}(h:Rs (KR R) as bs):OR R (look k as) (look k bs):=by
 induction h with
 | nil=>exact .no
 | @cons x y r s hx hr ih=>
  show OR R (if x.1=k then some x.2 else P.look k r) (if y.1=k then some y.2 else P.look k s)
  rw[<-hx.1]
  by_cases e:x.1=k
  .rw [if_pos e,if_pos e];exact .so hx.2
  .rw [if_neg e,if_neg e];exact ih
end
mutual
inductive FR(G:Nat->Af->Prop):TV->V->Prop
 | s {v:V}:FR G (.s v) v
 | n {k:Nd} {xs:List TV} {a:Nat} {vs:List V}:G a (k.cell vs)->xs.length<=k.bd->OY G xs vs->FR G (.n k xs) (.ref a)
 | u {a:Nat}:FR G .u (.ref a)
inductive OY(G:Nat->Af->Prop):List TV->List V->Prop
 | nil:OY G [] []
 | cons {x:TV} {v:V} {xs:List TV} {vs:List V}:FR G x v->OY G xs vs->OY G (x::xs) (v::vs)
end
noncomputable abbrev Le(G G':Nat->Af->Prop):Prop:=∀a c,G a c->G' a c
section
variable{G G':Nat->Af->Prop}
mutual
theorem FR.mono(l:Le G G'):∀{t:TV} {v:V},FR G t v->FR G' t v
 | _,_,.s=> .s
 | _,_,.n a b c=> .n (l _ _ a) b (OY.mono l c)
 | _,_,.u=> .u
theorem OY.mono(l:Le G G'):∀{xs:List TV} {vs:List V},OY G xs vs->OY G' xs vs
 | _,_,.nil=> .nil
 | _,_,.cons x y=> .cons (FR.mono l x) (OY.mono l y)
end
theorem Eu:∀{xs:List TV} {vs:List V},OY G xs vs->Rs (FR G) xs vs
 | _,_,.nil=> .nil
 | _,_,.cons x y=> .cons x (Eu y)
theorem IJ{xs:List TV}{vs:List V}(h:Rs (FR G) xs vs):OY G xs vs:=by
 induction h with
 | nil=>exact .nil
 | cons x _ ih=>exact .cons x ih
noncomputable def AF(G:Nat->Af->Prop)(ρ:List Nat)(x:LV)(v:V):Prop:=match x with
 | .f t=>FR G t v
 | .r i=>∃a,ρ[i]? =some a/\v=.ref a
theorem AF.mono(l:Le G G'){ρ ρ':List Nat}(p:ρ <+:ρ'){x:LV}{v:V}(h:AF G ρ x v):AF G' ρ' x v:=by
 cases x with
 | f t=>exact FR.mono l h
 | r i=>
  obtain⟨a,e,q⟩:=h
  obtain⟨t,rfl⟩:=p
  exact⟨a,by rw[MU (Ew.mp e).1];exact e,q⟩
end
structure Wd where
 ρ:List Nat
 H:MH
structure Fm where
 S:Nat->Prop
 H0:MH
noncomputable def LC.mut:LC->Bool
 | .fz _=>false
 | _=>true
noncomputable def LC.bor:LC->Bool
 | .lst b _=>b
 | _=>false
noncomputable def Sx(F:Fm)(L:List LC)(w:Wd)(a:Nat):Prop:=F.S a\/∃(i:Nat) (c:LC),w.ρ[i]? =some a/\L[i]? =some c/\c.mut=true
noncomputable def Gz(F:Fm)(L:List LC)(w:Wd)(a:Nat)(c:Af):Prop:=¬Sx F L w a/\gd w.H a=some c
noncomputable def Qx(G:Nat->Af->Prop)(ρ:List Nat)(o:Option Af)(a:Nat):LC->Prop
 | .lst _ xs=>∃vs,o=some (.list vs)/\Rs (FR G) xs vs/\xs.length<=5000
 | .dct kvs=>∃q,o=some (.dictW q)/\Rs (KR (FR G)) kvs q/\kvs.length<=90
 | .dci kvs=>∃q,o=some (.dictI q)/\Rs (KR (FR G)) kvs q/\kvs.length<=90
 | .ins c fs=>∃q,o=some (.inst c q)/\Rs (KR (AF G ρ)) fs q/\fs.length<=90
 | .fz t=>FR G t (.ref a)
structure Rl(F:Fm)(L:List LC)(w:Wd):Prop where
 tab:gd w.H 0=some .tab
 t0:∀i:Nat,¬w.ρ[i]? =some 0
 nd:∀(i j a:Nat),w.ρ[i]? =some a->w.ρ[j]? =some a->i=j
 len:w.ρ.length=L.length
 lt:∀(i a:Nat),w.ρ[i]? =some a->a < w.H.length
 sF:∀a,F.S a->a < F.H0.length
 le:F.H0.length<=w.H.length
 old:∀a,a < F.H0.length->(∀i:Nat,¬w.ρ[i]? =some a)->gd w.H a=gd F.H0 a
 own:∀(i a:Nat) (c:LC),w.ρ[i]? =some a->L[i]? =some c->c.bor=false->F.H0.length<=a
 cells:∀(i a:Nat) (c:LC),w.ρ[i]? =some a->L[i]? =some c->Qx (Gz F L w) w.ρ (gd w.H a) a c
structure Nx(F:Fm)(L:List LC)(w:Wd)(L':List LC)(w':Wd):Prop where
 r:Rl F L' w'
 p:w.ρ <+:w'.ρ
 l:Le (Gz F L w) (Gz F L' w')
section
variable{F:Fm}{L L' L'':List LC}{w w' w'':Wd}{G G':Nat->Af->Prop}{ρ ρ':List Nat}{o:Option Af}{a:Nat}{c:LC}
theorem Nx.refl(r:Rl F L w):Nx F L w L w:=⟨r,List.prefix_refl _,fun J J h=>h⟩
theorem Nx.trans(x:Nx F L w L' w')(y:Nx F L' w' L'' w''):Nx F L w L'' w'':=⟨y.r,x.p.trans y.p,fun a c h=>y.l a c (x.l a c h)⟩
theorem KR.mono{κ α β:Type}{R R':α->β->Prop}(f:∀a b,R a b->R' a b)(p:κ×α)(q:κ×β)(h:KR R p q):KR R' p q:=⟨h.1,f _ _ h.2⟩
theorem Qx.mono'(l:Le G G')(p:∀k fs q,c=.ins k fs->Rs (KR (AF G ρ)) fs q->Rs (KR (AF G' ρ')) fs q)(h:Qx G ρ o a c):Qx G' ρ' o a c:=by
 cases c with
 | lst b xs=>exact let⟨vs,e,r,n⟩:=h;⟨vs,e,r.mono fun J J=>FR.mono l,n⟩
 | dct kvs=>exact let⟨vs,e,r,n⟩:=h;⟨vs,e,r.mono (KR.mono fun J J=>FR.mono l),n⟩
 | dci kvs=>exact let⟨vs,e,r,n⟩:=h;⟨vs,e,r.mono (KR.mono fun J J=>FR.mono l),n⟩
 | ins k fs=>exact let⟨vs,e,r,n⟩:=h;⟨vs,e,p k fs vs rfl r,n⟩
 | fz t=>exact FR.mono l h
theorem Qx.mono(l:Le G G')(p:ρ <+:ρ')(h:Qx G ρ o a c):Qx G' ρ' o a c:=h.mono' l fun J J J J r=>r.mono (KR.mono fun J J=>AF.mono l p)
theorem Fq{H:MH}{c:Af}(h:gd H a=some c):a < H.length:=by
 unfold gd at h
 cases e:H[a]? with
 | none=>rw[e]at h;cases h
 | some x=>exact(Ew.mp e).1
theorem IW{H M:MH}(h:a < H.length):gd (H++M) a=gd H a:=by unfold gd;rw[MU h]
theorem SJ{H:MH}{c:Af}{M:MH}:gd (H++c::M) H.length=some (dm c):=by unfold gd;simp
theorem Fu{H:MH}{c:Af}{b:Nat}(h:b≠a):gd (H.set a c) b=gd H b:=by unfold gd;rw[Il (Ne.symm h)]
theorem EY{H:MH}{c:Af}(h:a < H.length):gd (H.set a c) a=some (dm c):=by unfold gd;rw[Gq h];rfl
theorem Ic(r:Rl F L w){H':MH}(hl:w.H.length<=H'.length)(hk:∀b,b < w.H.length->gd H' b=gd w.H b):Nx F L w L ⟨w.ρ,H'⟩:=
 have l:Le (Gz F L w) (Gz F L ⟨w.ρ,H'⟩):=fun a c h=>⟨h.1,(hk a (Fq h.2)).trans h.2⟩
 ⟨{
   tab:=(hk 0 (Fq r.tab)).trans r.tab,t0:=r.t0,nd:=r.nd,len:=r.len,lt:=fun i a h=>Nat.lt_of_lt_of_le (r.lt i a h) hl,sF:=r.sF,le:=Nat.le_trans r.le hl,
   old:=fun a h q=>(hk a (Nat.lt_of_lt_of_le h r.le)).trans (r.old a h q),own:=r.own,
   cells:=fun i a c h q=>(hk a (r.lt i a h)).symm▸(r.cells i a c h q).mono l (List.prefix_refl _)},List.prefix_refl _,l⟩
theorem D7{α:Type}{l:List α}{x y:α}{i:Nat}(h:(l++[x])[i]? =some y):l[i]? =some y\/(i=l.length/\y=x):=by
 rw[List.getElem?_append]at h
 by_cases q:i < l.length
 .rw [if_pos q]at h;exact .inl h
 .rw [if_neg q]at h
  cases e:i - l.length with
  | zero=>rw[e]at h;cases h;exact .inr ⟨by exact q3 ‹_› ‹_›,rfl⟩
  | succ n=>rw[e]at h;cases h
theorem Tk{α:Type}{l:List α}{x y:α}(h:(l++[x])[l.length]? =some y):y=x:=by
 rw[List.getElem?_append_right (Nat.le_refl _),Nat.sub_self]at h;cases h;rfl
theorem Q5(r:Rl F L w){c:Af}{lc:LC}(hb:lc.bor=false)(hc:∀G' ρ',Le (Gz F L w) G'->w.ρ <+:ρ'->Qx G' ρ' (some (dm c)) w.H.length lc):Nx F L w (L++[lc]) ⟨w.ρ++[w.H.length],w.H++[c]⟩:=
 have hp:w.ρ <+:w.ρ++[w.H.length]:=List.prefix_append ..
 have ll:∀{i a:Nat} {c':LC},(w.ρ++[w.H.length])[i]? =some a->(L++[lc])[i]? =some c'->(w.ρ[i]? =some a/\L[i]? =some c')\/(i=L.length/\a=w.H.length/\c'=lc):=fun {i a c'} h q=>by
  rcases D7 h with h | ⟨e,h⟩
  .rcases D7 q with q | ⟨e,q⟩
   .exact .inl ⟨h,q⟩
   .exact absurd ((Ew.mp h).1) (by rw[e,r.len];exact Nat.lt_irrefl _)
  .rw [e,r.len]at q
   exact .inr ⟨e.trans r.len,h,Tk q⟩
 have l:Le (Gz F L w) (Gz F (L++[lc]) ⟨w.ρ++[w.H.length],w.H++[c]⟩):=fun a c' h=>⟨fun s=>s.elim (fun s=>h.1 (.inl s)) fun⟨i,c1,e1,e2,e3⟩=>(ll e1 e2).elim (fun e=>h.1 (.inr ⟨i,c1,e.1,e.2,e3⟩)) fun e=>absurd (Fq h.2) (e.2.1▸Nat.lt_irrefl _),(IW (Fq h.2)).trans h.2⟩
 have lt:w.H.length < (w.H++[c]).length:=by rw[C1];exact Nat.lt_succ_self _
 ⟨{
   tab:=(IW (Fq r.tab)).trans r.tab
   t0:=fun i h=>(D7 h).elim (r.t0 i) fun e=>absurd (Fq r.tab) (e.2▸Nat.lt_irrefl _)
   nd:=fun i j a h q=>(D7 h).elim (fun h=>(D7 q).elim (r.nd i j a h) fun e=>absurd (r.lt i a h) (e.2▸Nat.lt_irrefl _)) fun e=>(D7 q).elim (fun q=>absurd (r.lt j a q) (e.2▸Nat.lt_irrefl _)) fun e'=>e.1.trans e'.1.symm
   len:=by rw[C1,C1,r.len];rfl
   lt:=fun i a h=>(D7 h).elim (fun h=>Nat.lt_trans (r.lt i a h) lt) fun e=>e.2▸lt
   sF:=r.sF
   le:=Nat.le_trans r.le (Nat.le_of_lt lt)
   old:=fun a h q=>(IW (Nat.lt_of_lt_of_le h r.le)).trans (r.old a h fun i e=>q i (by
    obtain⟨t,ht⟩:=hp
    show(w.ρ++[w.H.length])[i]? =_
    rw[MU (Ew.mp e).1];exact e))
   own:=fun i a c' h q b=>(ll h q).elim (fun e=>r.own i a c' e.1 e.2 b) fun e=>e.2.1▸r.le
   cells:=fun i a c' h q=>(ll h q).elim (fun e=>(IW (r.lt i a e.1)).symm▸(r.cells i a c' e.1 e.2).mono l hp) fun e=>by
    obtain⟨_,rfl,rfl⟩:=e
    rw[SJ]
    exact hc _ _ l hp},hp,l⟩
theorem I1(r:Rl F L w){i:Nat}{lc:LC}{H':MH}(hi:w.ρ[i]? =some a)(hm:L[i]? =some c)(hmut:c.mut=true)(hb:lc.bor=c.bor)(hl:w.H.length<=H'.length)(hk:∀b,b < w.H.length->b≠a->gd H' b=gd w.H b)
  (hc:Le (Gz F L w) (Gz F (L.set i lc) ⟨w.ρ,H'⟩)->Qx (Gz F (L.set i lc) ⟨w.ρ,H'⟩) w.ρ (gd H' a) a lc):Nx F L w (L.set i lc) ⟨w.ρ,H'⟩:=
 have lt:i < L.length:=(Ew.mp hm).1
 have ll:∀{j b:Nat} {c':LC},w.ρ[j]? =some b->(L.set i lc)[j]? =some c'->(j≠i/\b≠a/\L[j]? =some c')\/(j=i/\b=a/\c'=lc):=fun {j b c'} h q=>by
  by_cases e:i=j
  .subst e
   rw[hi]at h
   rw[Gq lt]at q
   cases h;cases q
   exact .inr ⟨rfl,rfl,rfl⟩
  .rw [Il e]at q
   exact .inl ⟨Ne.symm e,fun e'=>e (r.nd i j a hi (e'▸h)),q⟩
 have l:Le (Gz F L w) (Gz F (L.set i lc) ⟨w.ρ,H'⟩):=fun b c' h=>
  have ne:b≠a:=fun e=>h.1 (.inr ⟨i,c,e▸hi,hm,hmut⟩)
  ⟨fun s=>s.elim (fun s=>h.1 (.inl s)) fun⟨j,c1,e1,e2,e3⟩=>(ll e1 e2).elim (fun e=>h.1 (.inr ⟨j,c1,e1,e.2.2,e3⟩)) fun e=>ne e.2.1,(hk b (Fq h.2) ne).trans h.2⟩
 ⟨{
   tab:=(hk 0 (Fq r.tab) fun e=>r.t0 i (e▸hi)).trans r.tab
   t0:=r.t0,nd:=r.nd
   len:=by rw[List.length_set];exact r.len
   lt:=fun i a h=>Nat.lt_of_lt_of_le (r.lt i a h) hl
   sF:=r.sF
   le:=Nat.le_trans r.le hl
   old:=fun b h q=>(hk b (Nat.lt_of_lt_of_le h r.le) fun e=>q i (e▸hi)).trans (r.old b h q)
   own:=fun j b c' h q e=>(ll h q).elim (fun x=>r.own j b c' h x.2.2 e) fun x=>x.2.1▸r.own i a c hi hm (by rw[<-hb,<-x.2.2];exact e)
   cells:=fun j b c' h q=>(ll h q).elim (fun e=>(hk b (r.lt j b h) e.2.1).symm▸(r.cells j b c' h e.2.2).mono l (List.prefix_refl _)) fun e=>by
    obtain⟨_,rfl,rfl⟩:=e
    exact hc l},List.prefix_refl _,l⟩
theorem Tt(r:Rl F L w){i:Nat}{t:TV}(hi:w.ρ[i]? =some a)(hm:L[i]? =some c)(hb:c.bor=false)(hc:∀G',Le (Gz F L w) G'->(∀x,gd w.H a=some x->G' a x)->FR G' t (.ref a)):Nx F L w (L.set i (.fz t)) w/\FR (Gz F (L.set i (.fz t)) w) t (.ref a):=
 have lt:i < L.length:=(Ew.mp hm).1
 have ll:∀{j b:Nat} {c':LC},w.ρ[j]? =some b->(L.set i (.fz t))[j]? =some c'->(j≠i/\b≠a/\L[j]? =some c')\/(j=i/\b=a/\c'=.fz t):=fun {j b c'} h q=>by
  by_cases e:i=j
  .subst e
   rw[hi]at h
   rw[Gq lt]at q
   cases h;cases q
   exact .inr ⟨rfl,rfl,rfl⟩
  .rw [Il e]at q
   exact .inl ⟨Ne.symm e,fun e'=>e (r.nd i j a hi (e'▸h)),q⟩
 have sx:∀{b},Sx F (L.set i (.fz t)) w b->Sx F L w b/\b≠a:=fun {b} s=>s.elim (fun s=>⟨.inl s,fun e=>absurd (r.sF b s) (by rw[e];exact Nat.not_lt.mpr (r.own i a c hi hm hb))⟩) fun⟨j,c1,e1,e2,e3⟩=>(ll e1 e2).elim (fun e=>⟨.inr ⟨j,c1,e1,e.2.2,e3⟩,e.2.1⟩) fun e=>by rw[e.2.2]at e3;cases e3
 have l:Le (Gz F L w) (Gz F (L.set i (.fz t)) w):=fun b c' h=>⟨fun s=>h.1 (sx s).1,h.2⟩
 have fr:FR (Gz F (L.set i (.fz t)) w) t (.ref a):=hc _ l fun x hx=>⟨fun s=>(sx s).2 rfl,hx⟩
 ⟨⟨{
   tab:=r.tab,t0:=r.t0,nd:=r.nd,lt:=r.lt,sF:=r.sF,le:=r.le,old:=r.old
   len:=by rw[List.length_set];exact r.len
   own:=fun j b c' h q e=>(ll h q).elim (fun x=>r.own j b c' h x.2.2 e) fun x=>x.2.1▸r.own i a c hi hm hb
   cells:=fun j b c' h q=>(ll h q).elim (fun e=>(r.cells j b c' h e.2.2).mono l (List.prefix_refl _)) fun e=>by
    obtain⟨_,rfl,rfl⟩:=e
    exact fr},List.prefix_refl _,l⟩,fr⟩
noncomputable def LV.lo(n:Nat):LV->Bool
 | .f _=>true
 | .r i=>Nat.blt i n
noncomputable def LC.lo(n:Nat):LC->Bool
 | .ins _ fs=>fs.all fun p=>p.2.lo n
 | _=>true
theorem ZQ(l:Le G G'){n:Nat}{fs:List (Nat×LV)}{q:List (Nat×V)}(h:Rs (KR (AF G ρ)) fs q):fs.all (fun p=>p.2.lo n)=true->Rs (KR (AF G' (ρ.take n))) fs q:=by
 induction h with
 | nil=>exact fun J=> .nil
 | @cons p v fs q hx _ ih=>
  intro e
  rw[List.all_cons,PQ]at e
  refine .cons ⟨hx.1,?_⟩ (ih e.2)
  have h2:=hx.2
  have e1:=e.1
  revert h2 e1
  cases p.2 with
  | f t=>exact fun h2 J=>FR.mono l h2
  | r i=>exact fun⟨a,e2,e3⟩ e1=>⟨a,by rw[List.getElem?_take,if_pos (Nat.blt_eq.mp e1)];exact e2,e3⟩
theorem Oq(r:Rl F L w){n:Nat}(h:(L.take n).all (LC.lo n)=true)(hn:(L.drop n).all (fun c=> !c.bor)=true):Rl F (L.take n) ⟨w.ρ.take n,w.H⟩/\Le (Gz F L w) (Gz F (L.take n) ⟨w.ρ.take n,w.H⟩):=
 have tk:∀{α:Type} {l:List α} {i:Nat} {x:α},(l.take n)[i]? =some x->l[i]? =some x/\i < n:=fun {α l i x} e=>by
  rw[List.getElem?_take]at e
  by_cases q:i < n
  .rw [if_pos q]at e;exact⟨e,q⟩
  .rw [if_neg q]at e;cases e
 have l:Le (Gz F L w) (Gz F (L.take n) ⟨w.ρ.take n,w.H⟩):=fun a c h=>⟨fun s=>h.1 (s.imp id fun⟨i,c1,e1,e2,e3⟩=>⟨i,c1,(tk e1).1,(tk e2).1,e3⟩),h.2⟩
 ⟨{
   tab:=r.tab,t0:=fun i e=>r.t0 i (tk e).1,nd:=fun i j a e e'=>r.nd i j a (tk e).1 (tk e').1
   len:=by rw[List.length_take,List.length_take,r.len]
   lt:=fun i a e=>r.lt i a (tk e).1,sF:=r.sF,le:=r.le
   old:=fun a h (q:∀i:Nat,¬(w.ρ.take n)[i]? =some a)=>by
    by_cases e:∃i:Nat,w.ρ[i]? =some a
    .obtain ⟨i,e⟩:=e
     have hn':n<=i:=Nat.not_lt.mp fun hn=>q i (by show(w.ρ.take n)[i]? =_;rw[List.getElem?_take,if_pos hn];exact e)
     obtain⟨c,hc⟩:∃c,L[i]? =some c:=⟨_,List.getElem?_eq_getElem (r.len▸(Ew.mp e).1)⟩
     have hb:=List.all_eq_true.mp hn c (List.mem_of_getElem? (i:=i - n) (by rw[List.getElem?_drop,Nat.add_sub_cancel' hn'];exact hc))
     exact absurd h (Nat.not_lt.mpr (r.own i a c e hc (by cases q:c.bor with | false=>rfl | true=>rw[q]at hb;cases hb)))
    .exact r.old a h fun i h=>e ⟨i,h⟩
   own:=fun i a c e e'=>r.own i a c (tk e).1 (tk e').1
   cells:=fun i a c e e'=>by
    have lo:=List.all_eq_true.mp h c (List.mem_of_getElem? e')
    exact(r.cells i a c (tk e).1 (tk e').1).mono' l fun k fs q ec hr=>by subst ec;exact ZQ l hr lo},l⟩
end
inductive Ct where | lst (xs:List TV) | tup (xs:List TV) | dct (kvs:List (Nat×TV)) | dci (kvs:List (Int×TV)) | ins (c:Dx) (fs:List (Nat×LV))
noncomputable def Ct.ctorIdx(x:Ct):Nat:= @Ct.casesOn (fun J=>Nat) x (fun J=>0) (fun J=>1) (fun J=>2) (fun J=>3) (fun J J=>4)
noncomputable def Nd.ct(k:Nd)(xs:List TV):Ct:=k.casesOn (.lst xs) (.tup xs) (fun ks=> .dct (ks.zip xs)) (fun c ks=> .ins c ((ks.zip xs).map fun p=>p.rec fun a b=>(a,.f b)))
noncomputable def TV.ct(t:TV):Option Ct:=t.casesOn (fun J=>none) (fun k xs=>some (k.ct xs)) none
noncomputable def LC.ct(c:LC):Option Ct:=c.casesOn (fun J xs=>some (.lst xs)) (fun kvs=>some (.dct kvs)) (fun kvs=>some (.dci kvs)) (fun c fs=>some (.ins c fs)) TV.ct
noncomputable def LV.ct(L:List LC)(v:LV):Option Ct:=v.casesOn TV.ct fun i=>(L[i]?).rec none LC.ct
theorem ob{α β:Type}{o:Option α}{f:α->Option β}{y:β}(e:o.rec none f=some y):∃x,o=some x/\f x=some y:=by
 cases o with
 | none=>cases e
 | some x=>exact⟨x,rfl,e⟩
noncomputable def eS(G:Nat->Af->Prop)(ρ:List Nat)(o:Option Af):Ct->Prop
 | .lst xs=>∃vs,o=some (.list vs)/\Rs (FR G) xs vs/\xs.length<=5000
 | .tup xs=>∃vs,o=some (.tup vs)/\Rs (FR G) xs vs/\xs.length<=5000
 | .dct kvs=>∃q,o=some (.dictW q)/\Rs (KR (FR G)) kvs q/\kvs.length<=90
 | .dci kvs=>∃q,o=some (.dictI q)/\Rs (KR (FR G)) kvs q/\kvs.length<=90
 | .ins c fs=>∃q,o=some (.inst c q)/\Rs (KR (AF G ρ)) fs q/\fs.length<=90
section
variable{F:Fm}{L:List LC}{w:Wd}{G:Nat->Af->Prop}{ρ:List Nat}{o:Option Af}{a:Nat}
theorem cS{as:List (Nat×TV)}{bs:List (Nat×V)}(h:Rs (KR (FR G)) as bs):Rs (KR (AF G ρ)) (as.map fun p=>p.rec fun a b=>(a,.f b)) bs:=by
 induction h with
 | nil=>exact .nil
 | cons x _ ih=>exact .cons ⟨x.1,x.2⟩ ih
theorem Tg{α β:Type}(as:List α){bs:List β}{n:Nat}(h:bs.length<=n):(as.zip bs).length<=n:=by
 rw[List.length_zip];exact Nat.le_trans (Nat.min_le_right _ _) h
theorem Z9{k:Nd}{xs:List TV}{vs:List V}(e:o=some (k.cell vs))(hl:xs.length<=k.bd)(hx:OY G xs vs):eS G ρ o (k.ct xs):=by
 cases k with
 | lst=>exact⟨vs,e,Eu hx,hl⟩
 | tup=>exact⟨vs,e,Eu hx,hl⟩
 | dct ks=>exact⟨_,e,Sr (Eu hx) ks,Tg ks hl⟩
 | ins c ks=>exact⟨_,e,cS (Sr (Eu hx) ks),by rw[List.length_map];exact Tg ks hl⟩
theorem VV{t:TV}{v:V}{ct:Ct}(h:FR (Gz F L w) t v)(e:t.ct=some ct):∃a,v=.ref a/\eS (Gz F L w) w.ρ (gd w.H a) ct:=by
 cases h with
 | s=>cases e
 | u=>cases e
 | n h1 h2 h3=>cases e;exact⟨_,rfl,Z9 h1.2 h2 h3⟩
theorem HF(r:Rl F L w){x:LV}{v:V}{ct:Ct}(h:AF (Gz F L w) w.ρ x v)(e:x.ct L=some ct):∃a,v=.ref a/\eS (Gz F L w) w.ρ (gd w.H a) ct:=by
 cases x with
 | f t=>exact VV h e
 | r i=>
  obtain⟨a,h1,rfl⟩:=h
  obtain⟨c,hc,e⟩:=ob e
  have x:=r.cells i a c h1 hc
  cases c with
  | fz t=>exact VV x e
  | lst b xs=>cases e;exact⟨a,rfl,x⟩
  | dct kvs=>cases e;exact⟨a,rfl,x⟩
  | dci kvs=>cases e;exact⟨a,rfl,x⟩
  | ins c fs=>cases e;exact⟨a,rfl,x⟩
theorem Ju{H:MH}{c:Af}(h:gd H a=some c):∃c',H[a]? =some c'/\dm c'=c:=by
 unfold gd at h
 cases e:H[a]? with
 | none=>rw[e]at h;cases h
 | some c'=>rw[e]at h;exact⟨c',rfl,Option.some.inj h⟩
theorem GB{c:Dx}{fs:List (Nat×V)}{x:Af}(h:dm (.inst c fs)=x):(x=.dictP [])\/(x=.inst c (E8 fs)/\fs.length<=(E8 fs).length+1):=by
 have h:(Nat.ble fs.length ((E8 fs).length+1)).rec (Af.dictP []) (.inst c (E8 fs))=x:=h
 cases e:Nat.ble fs.length ((E8 fs).length+1)with
 | false=>rw[e]at h;exact .inl h.symm
 | true=>rw[e]at h;exact .inr ⟨h.symm,BI e⟩
noncomputable def hW(c:Af):Bool:=c.rec (fun J=>true) (fun J=>true) (fun J=>true) (fun J=>false) (fun J=>true) (fun J J=>false) false
theorem Um{H:MH}{c:Af}(h:gd H a=some c)(hs:hW c=true):H[a]? =some c:=by
 obtain⟨c',e,h⟩:=Ju h
 cases c' with
 | inst k fs=>rcases GB h with h | ⟨h,_⟩<;>rw[h]at hs<;>cases hs
 | tab=>rw[<-h]at hs;cases hs
 | _=>rw[e];exact congrArg some h
theorem DB{H:MH}{vs:List V}(h:gd H a=some (.list vs)):H[a]? =some (.list vs):=Um h rfl
theorem He{H:MH}{vs:List V}(h:gd H a=some (.tup vs)):H[a]? =some (.tup vs):=Um h rfl
theorem DH{H:MH}{vs:List (Nat×V)}(h:gd H a=some (.dictW vs)):H[a]? =some (.dictW vs):=Um h rfl
theorem LG{H:MH}{vs:List (Int×V)}(h:gd H a=some (.dictI vs)):H[a]? =some (.dictI vs):=Um h rfl
theorem H8{H:MH}{c:Dx}{q:List (Nat×V)}(h:gd H a=some (.inst c q)):∃fs,H[a]? =some (.inst c fs)/\q=E8 fs/\fs.length<=q.length+1:=by
 obtain⟨c',e,h⟩:=Ju h
 cases c' with
 | inst k fs=>
  rcases GB h with h | ⟨h,l⟩
  .cases h
  .cases h;exact⟨fs,e,rfl,l⟩
 | _=>cases h
noncomputable def Ct.l?(c:Ct):Option (List TV):=c.casesOn some (fun J=>none) (fun J=>none) (fun J=>none) fun J J=>none
noncomputable def Ct.t?(c:Ct):Option (List TV):=c.casesOn (fun J=>none) some (fun J=>none) (fun J=>none) fun J J=>none
noncomputable def Ct.d?(c:Ct):Option (List (Nat×TV)):=c.casesOn (fun J=>none) (fun J=>none) some (fun J=>none) fun J J=>none
noncomputable def Ct.e?(c:Ct):Option (List (Int×TV)):=c.casesOn (fun J=>none) (fun J=>none) (fun J=>none) some fun J J=>none
noncomputable def Ct.i?(c:Ct):Option (Dx×List (Nat×LV)):=c.casesOn (fun J=>none) (fun J=>none) (fun J=>none) (fun J=>none) fun c fs=>some (c,fs)
noncomputable def rd{α:Type}(f:Ct->Option α)(L:List LC)(v:LV):Option α:=(v.ct L).rec none f
theorem Gp{α:Type}{f:Ct->Option α}{v:LV}{x:α}(e:rd f L v=some x):∃ct,v.ct L=some ct/\f ct=some x:=ob e
inductive Zh(F:Fm)(L:List LC)(w:Wd)(v:V)(xs:List TV):Prop
 | mk (a:_) (vs:_) (q0:v=.ref a) (q1:w.H[a]? =some (.list vs)) (q2:Rs (FR (Gz F L w)) xs vs) (q3:xs.length<=5000):Zh F L w v xs
theorem Pp(r:Rl F L w){x:LV}{v:V}{xs:List TV}(h:AF (Gz F L w) w.ρ x v)(e:rd Ct.l? L x=some xs):Zh F L w v xs:=by
 obtain⟨ct,e1,e2⟩:=Gp e
 obtain⟨a,rfl,q⟩:=HF r h e1
 cases ct with
 | lst ys=>cases e2;exact let⟨vs,p,q⟩:=q;⟨a,vs,rfl,DB p,q.1,q.2⟩
 | _=>cases e2
inductive Y6(F:Fm)(L:List LC)(w:Wd)(v:V)(xs:List TV):Prop
 | mk (a:_) (vs:_) (q0:v=.ref a) (q1:w.H[a]? =some (.tup vs)) (q2:Rs (FR (Gz F L w)) xs vs) (q3:xs.length<=5000):Y6 F L w v xs
theorem fG(r:Rl F L w){x:LV}{v:V}{xs:List TV}(h:AF (Gz F L w) w.ρ x v)(e:rd Ct.t? L x=some xs):Y6 F L w v xs:=by
 obtain⟨ct,e1,e2⟩:=Gp e
 obtain⟨a,rfl,q⟩:=HF r h e1
 cases ct with
 | tup ys=>cases e2;exact let⟨vs,p,q⟩:=q;⟨a,vs,rfl,He p,q.1,q.2⟩
 | _=>cases e2
inductive Zw(F:Fm)(L:List LC)(w:Wd)(v:V)(xs:List (Nat×TV)):Prop
 | mk (a:_) (vs:_) (q0:v=.ref a) (q1:w.H[a]? =some (.dictW vs)) (q2:Rs (KR (FR (Gz F L w))) xs vs) (q3:xs.length<=90):Zw F L w v xs
theorem aX(r:Rl F L w){x:LV}{v:V}{xs:List (Nat×TV)}(h:AF (Gz F L w) w.ρ x v)(e:rd Ct.d? L x=some xs):Zw F L w v xs:=by
 obtain⟨ct,e1,e2⟩:=Gp e
 obtain⟨a,rfl,q⟩:=HF r h e1
 cases ct with
 | dct ys=>cases e2;exact let⟨vs,p,q⟩:=q;⟨a,vs,rfl,DH p,q.1,q.2⟩
 | _=>cases e2
inductive aN(F:Fm)(L:List LC)(w:Wd)(v:V)(xs:List (Int×TV)):Prop
 | mk (a:_) (vs:_) (q0:v=.ref a) (q1:w.H[a]? =some (.dictI vs)) (q2:Rs (KR (FR (Gz F L w))) xs vs) (q3:xs.length<=90):aN F L w v xs
theorem hF(r:Rl F L w){x:LV}{v:V}{xs:List (Int×TV)}(h:AF (Gz F L w) w.ρ x v)(e:rd Ct.e? L x=some xs):aN F L w v xs:=by
 obtain⟨ct,e1,e2⟩:=Gp e
 obtain⟨a,rfl,q⟩:=HF r h e1
 cases ct with
 | dci ys=>cases e2;exact let⟨vs,p,q⟩:=q;⟨a,vs,rfl,LG p,q.1,q.2⟩
 | _=>cases e2
inductive Y0(F:Fm)(L:List LC)(w:Wd)(v:V)(p:Dx×List (Nat×LV)):Prop
 | mk (a:_) (fs:_) (q0:v=.ref a) (q1:w.H[a]? =some (.inst p.1 fs)) (q2:Rs (KR (AF (Gz F L w) w.ρ)) p.2 (E8 fs)) (q3:p.2.length<=90) (q4:fs.length<=(E8 fs).length+1):Y0 F L w v p
theorem cY(r:Rl F L w){x:LV}{v:V}{p:Dx×List (Nat×LV)}(h:AF (Gz F L w) w.ρ x v)(e:rd Ct.i? L x=some p):Y0 F L w v p:=by
 obtain⟨ct,e1,e2⟩:=Gp e
 obtain⟨a,rfl,q⟩:=HF r h e1
 cases ct with
 | ins c fs=>
  cases e2
  obtain⟨vs,p,q1,q2⟩:=q
  obtain⟨fs',e3,rfl,e4⟩:=H8 p
  exact⟨a,fs',rfl,e3,q1,q2,e4⟩
 | _=>cases e2
theorem DF{k:Nat}(hk:k≠3):∀fs:List (Nat×V),look k (E8 fs)=look k fs
 | []=>rfl
 | p::r=>by
  unfold E8
  rw[List.filter_cons]
  by_cases h:p.1=3
  .rw [if_neg (by rw[h];decide)];refine(DF hk r).trans ?_;exact(if_neg (by rw[h];exact Ne.symm hk)).symm
  .rw [if_pos (by exact bne_iff_ne.mpr h)];exact congrArg (fun x=>if p.1=k then some p.2 else x) (DF hk r)
end
inductive Oc(α:Type) where | ok (a:α) (L:List LC) | exc (m:Nat) (L:List LC)
noncomputable def Oc.ctorIdx{α:Type}(x:Oc α):Nat:= @Oc.casesOn α (fun J=>Nat) x (fun J J=>0) (fun J J=>1)
noncomputable abbrev Ed(τ α:Type):Type:=(Nat->Af->Prop)->List Nat->τ->α->Prop
noncomputable def Rn{τ α:Type}(F:Fm)(L:List LC)(w:Wd)(m:M α)(rel:Ed τ α):Oc τ->Prop
 | .ok t L'=>∃a w',m w.H=.ok a w'.H/\Nx F L w L' w'/\rel (Gz F L' w') w'.ρ t a
 | .exc e L'=>∃w',m w.H=.exc e w'.H/\Nx F L w L' w'
noncomputable def Sm{σ τ ς α:Type}(R:Ed σ ς)(rel:Ed τ α)(m:ς->M α)(x:σ)(L:List LC)(out:Oc τ):Prop:=∀F w s,Rl F L w->R (Gz F L w) w.ρ x s->Rn F L w (m s) rel out
inductive Sc where | z | a (s:Sc) | b (s:Sc) | c (s:Sc) | d (s:Sc)
noncomputable abbrev Kt(τ:Type):Type:=τ->List LC->Sc->Prop
noncomputable abbrev Tr(σ τ:Type):Type:=σ->List LC->Sc->Kt τ->Kt Nat->Prop
noncomputable def AV{σ τ ς α:Type}(R:Ed σ ς)(rel:Ed τ α)(m:ς->M α)(k:Tr σ τ):Prop:=
 ∀x L sc K X,(∀t L' sc',Sm R rel m x L (.ok t L')->K t L' sc')->(∀e L' sc',Sm R rel m x L (.exc e L')->X e L' sc')->k x L sc K X
noncomputable def FL{σ ς:Type}(R:Ed σ ς):Prop:=∀{G G':Nat->Af->Prop} {ρ ρ':List Nat},Le G G'->ρ <+:ρ'->∀{x:σ} {s:ς},R G ρ x s->R G' ρ' x s
noncomputable def P2{σ ς τ α:Type}(R:Ed σ ς)(S:Ed τ α):Ed (σ×τ) (ς×α):=fun G ρ p q=>R G ρ p.1 q.1/\S G ρ p.2 q.2
section
variable{σ τ υ ς α β:Type}{R:Ed σ ς}{rel:Ed τ α}{rel2:Ed υ β}{F:Fm}{L L':List LC}{w w':Wd}
theorem DP:FL AF:=fun l p J J h=>AF.mono l p h
theorem CX{S:Ed τ α}(a:FL R)(b:FL S):FL (P2 R S):=fun l p J J h=>⟨a l p h.1,b l p h.2⟩
theorem Av{m:M α}{f:α->M β}{H H':MH}{a:α}(e:m H=.ok a H'):Mine.bnd m f H=f a H':=by
 show(match m H with | .ok a H'=>f a H' | .exc e H'=> .exc e H' | .bad=> .bad)=_
 rw[e]
theorem Ub{m:M α}{f:α->M β}{H H':MH}{x:Nat}(e:m H=.exc x H'):Mine.bnd m f H=.exc x H':=by
 show(match m H with | .ok a H'=>f a H' | .exc e H'=> .exc e H' | .bad=> .bad)=_
 rw[e]
theorem Rn.bnd{m:M α}{f:α->M β}{t:τ}{out:Oc υ}(h:Rn F L w m rel (.ok t L'))(k:∀w' a,Nx F L w L' w'->rel (Gz F L' w') w'.ρ t a->Rn F L' w' (f a) rel2 out):Rn F L w (Mine.bnd m f) rel2 out:=by
 obtain⟨a,w',e,n,r⟩:=h
 have h2:=k w' a n r
 cases out with
 | ok u L2=>exact let⟨b,w2,e2,n2,r2⟩:=h2;⟨b,w2,(Av e).trans e2,n.trans n2,r2⟩
 | exc x L2=>exact let⟨w2,e2,n2⟩:=h2;⟨w2,(Av e).trans e2,n.trans n2⟩
theorem Rn.exc{m:M α}{f:α->M β}{x:Nat}(h:Rn F L w m rel (.exc x L')):Rn F L w (Mine.bnd m f) rel2 (.exc x L'):=by
 exact let⟨w',e,n⟩:=h;⟨w',Ub e,n⟩
theorem Aw(mo:FL R){m:ς->M α}{k:Tr σ τ}{f:ς×α->M β}{k2:Tr (σ×τ) υ}(h:AV R rel m k)(h2:AV (P2 R rel) rel2 f k2):
  AV R rel2 (fun s=>Mine.bnd (m s) fun a=>f (s,a)) fun x L sc K X=>k x L sc (fun t L sc=>k2 (x,t) L sc K X) X:=fun x J J J J hK hX=>
 h x _ _ _ _ (fun t L1 J h1=>h2 (x,t) L1 _ _ _
   (fun u L2 sc2 q=>hK u L2 sc2 fun F w s r hs=>(h1 F w s r hs).bnd fun w1 a n p=>q F w1 (s,a) n.r ⟨mo n.l n.p hs,p⟩)
   (fun u L2 sc2 q=>hX u L2 sc2 fun F w s r hs=>(h1 F w s r hs).bnd fun w1 a n p=>q F w1 (s,a) n.r ⟨mo n.l n.p hs,p⟩))
  fun e L1 sc1 h1=>hX e L1 sc1 fun F w s r hs=>(h1 F w s r hs).exc
theorem Cr{σ' ς':Type}{R':Ed σ' ς'}{g:ς'->ς}{g':σ'->σ}{m:ς->M α}{k:Tr σ τ}(h:AV R rel m k)(hg:∀{G ρ x s},R' G ρ x s->R G ρ (g' x) (g s)):AV R' rel (fun s=>m (g s)) fun x=>k (g' x):=fun x L sc K X hK hX=>
 h (g' x) L sc K X (fun t L1 sc1 q=>hK t L1 sc1 fun F w s r hs=>q F w (g s) r (hg hs)) fun t L1 sc1 q=>hX t L1 sc1 fun F w s r hs=>q F w (g s) r (hg hs)
theorem W8{m:ς->M α}{k:Tr σ τ}{f:α->M β}{k2:Tr τ υ}(mo:FL R)(h:AV R rel m k)(h2:AV rel rel2 f k2):AV R rel2 (fun s=>Mine.bnd (m s) f) fun x L sc K X=>k x L sc (fun t L sc=>k2 t L sc K X) X:=
 Aw mo h (Cr (g:=Prod.snd) (g':=Prod.snd) h2 fun h=>h.2)
theorem Vh{τ' α':Type}{rel':Ed τ' α'}{m:ς->M α}{k:Tr σ τ}{m':ς->M α'}{k':Tr σ τ'}{f:α->α'->M β}{k2:τ->Tr τ' υ}(mo:FL R)(mr:FL rel)(h:AV R rel m k)(h':AV R rel' m' k')(h2:AV (P2 rel rel') rel2 (fun p=>f p.1 p.2) fun p=>k2 p.1 p.2):
  AV R rel2 (fun s=>Mine.bnd (m s) fun x=>Mine.bnd (m' s) fun y=>f x y) fun x L sc K X=>k x L sc (fun t L sc=>k' x L sc (fun u L sc=>k2 t u L sc K X) X) X:=
 Aw mo h (Aw (CX mo mr) (f:=fun p=>f p.1.2 p.2) (k2:=fun p=>k2 p.1.2 p.2) (Cr (g:=Prod.fst) (g':=Prod.fst) h' fun h=>h.1) (Cr (R':=P2 (P2 R rel) rel') (g:=fun p:(ς×α)×α'=>(p.1.2,p.2)) (g':=fun p:(σ×τ)×τ'=>(p.1.2,p.2)) h2 fun h=>⟨h.1.2,h.2⟩))
theorem Ul{τ' α' γ δ:Type}{rel':Ed τ' α'}{relc:Ed γ δ}{m:ς->M α}{k:Tr σ τ}{m':ς->M α'}{k':Tr σ τ'}{c:α->M δ}{kc:Tr τ γ}{f:α->δ->α'->M β}{k2:τ->γ->Tr τ' υ}(mo:FL R)(mr:FL rel)(mc:FL relc)(h:AV R rel m k)(hc:AV rel relc c kc)(h':AV R rel' m' k')(h2:AV (P2 (P2 rel relc) rel') rel2 (fun p=>f p.1.1 p.1.2 p.2) fun p=>k2 p.1.1 p.1.2 p.2):
  AV R rel2 (fun s=>Mine.bnd (m s) fun x=>Mine.bnd (c x) fun z=>Mine.bnd (m' s) fun y=>f x z y) fun x L sc K X=>k x L sc (fun t L sc=>kc t L sc (fun g L sc=>k' x L sc (fun u L sc=>k2 t g u L sc K X) X) X) X:=
 Aw mo h (Aw (CX mo mr) (f:=fun p=>Mine.bnd (m' p.1.1) fun y=>f p.1.2 p.2 y) (k2:=fun p L sc K X=>k' p.1.1 L sc (fun u L sc=>k2 p.1.2 p.2 u L sc K X) X) (Cr (g:=Prod.snd) (g':=Prod.snd) hc fun h=>h.2)
  (Aw (CX (CX mo mr) mc) (f:=fun p=>f p.1.1.2 p.1.2 p.2) (k2:=fun p=>k2 p.1.1.2 p.1.2 p.2) (Cr (R':=P2 (P2 R rel) relc) (g:=fun p:(ς×α)×δ=>p.1.1) (g':=fun p:(σ×τ)×γ=>p.1.1) h' fun h=>h.1.1) (Cr (R':=P2 (P2 (P2 R rel) relc) rel') (g:=fun p:((ς×α)×δ)×α'=>((p.1.1.2,p.1.2),p.2)) (g':=fun p:((σ×τ)×γ)×τ'=>((p.1.1.2,p.1.2),p.2)) h2 fun h=>⟨⟨h.1.1.2,h.1.2⟩,h.2⟩)))
noncomputable def oE{α:Type}(o:Option α)(k:α->Prop):Prop:=o.rec True k
theorem Ax{α:Type}{o:Option α}{k:α->Prop}(h:∀x,o=some x->k x):oE o k:=by
 cases o with
 | none=>trivial
 | some x=>exact h x rfl
noncomputable def bE(b:Bool)(k:Prop):Prop:=b.rec True k
theorem Hd{b:Bool}{k:Prop}(h:b=true->k):bE b k:=by
 cases b with
 | false=>trivial
 | true=>exact h rfl
noncomputable def sE(s:Sc)(a b c d:Sc->Prop):Prop:=s.casesOn (a .z) a b c d
theorem HK{s:Sc}{a b c d:Sc->Prop}(ha:∀s,a s)(hb:∀s,b s)(hc:∀s,c s)(hd:∀s,d s):sE s a b c d:=by
 cases s with
 | z=>exact ha .z
 | a s=>exact ha s
 | b s=>exact hb s
 | c s=>exact hc s
 | d s=>exact hd s
noncomputable def tE(p:Prop)[Decidable p](s:Sc)(k:Bool->Sc->Prop):Prop:=sE s (k (decide p)) (fun s=>p->k true s) (fun s=>¬p->k false s) fun J=>True
theorem ZI{p:Prop}[Decidable p]{s:Sc}{k:Bool->Sc->Prop}(h:∀s,k (decide p) s):tE p s k:=
 HK h (fun s q=>decide_eq_true q▸h s) (fun s q=>decide_eq_false q▸h s) fun J=>trivial
noncomputable def LV.s?(v:LV):Option V:=v.casesOn (fun t=>t.casesOn some (fun J J=>none) none) fun J=>none
noncomputable def Vi(v:V):Option Int:=v.casesOn none (fun J=>none) some (fun J=>none) (fun J=>none) (fun J=>none) none
noncomputable def Vw(v:V):Option Nat:=v.casesOn none (fun J=>none) (fun J=>none) some (fun J=>none) (fun J=>none) none
noncomputable def Vb(v:V):Option Bool:=v.casesOn none some (fun J=>none) (fun J=>none) (fun J=>none) (fun J=>none) none
noncomputable def LV.i?(v:LV):Option Int:=v.s?.rec none Vi
noncomputable def LV.w?(v:LV):Option Nat:=v.s?.rec none Vw
noncomputable def LV.b?(v:LV):Option Bool:=v.s?.rec none Vb
noncomputable def Io(i:Int):Option Nat:=i.casesOn some fun J=>none
theorem JX{i:Int}{n:Nat}(e:Io i=some n):i=(n:Int):=by
 cases i with
 | ofNat m=>cases e;rfl
 | negSucc m=>cases e
variable{G:Nat->Af->Prop}{ρ:List Nat}
theorem NU{x:LV}{v u:V}(e:x.s? =some u)(h:AF G ρ x v):v=u:=by
 cases x with
 | r i=>cases e
 | f t=>cases t with
  | n k xs=>cases e
  | u=>cases e
  | s y=>cases e;cases h;rfl
theorem EZ{x:LV}{v:V}{i:Int}(e:x.i? =some i)(h:AF G ρ x v):v=.int i:=by
 obtain⟨y,e1,e2⟩:=ob e
 rw[NU e1 h]
 cases y with
 | int j=>cases e2;rfl
 | _=>cases e2
theorem JB{x:LV}{v:V}{i:Nat}(e:x.w? =some i)(h:AF G ρ x v):v=.w i:=by
 obtain⟨y,e1,e2⟩:=ob e
 rw[NU e1 h]
 cases y with
 | w j=>cases e2;rfl
 | _=>cases e2
theorem Sw{x:LV}{v:V}{i:Bool}(e:x.b? =some i)(h:AF G ρ x v):v=.bool i:=by
 obtain⟨y,e1,e2⟩:=ob e
 rw[NU e1 h]
 cases y with
 | bool j=>cases e2;rfl
 | _=>cases e2
noncomputable abbrev sv(v:V):LV:= .f (.s v)
theorem Rn.same{m:M α}{a:α}{t:τ}(r:Rl F L w)(e:m w.H=.ok a w.H)(h:rel (Gz F L w) w.ρ t a):Rn F L w m rel (.ok t L):=⟨a,w,e,.refl r,h⟩
end
noncomputable def aS(b:Bool)(s:Sc)(k:Bool->Sc->Prop):Prop:=sE s (k b) (fun s=>b=true->k true s) (fun s=>b=false->k false s) fun J=>True
theorem Pi{b:Bool}{s:Sc}{k:Bool->Sc->Prop}(h:∀s,k b s):aS b s k:=HK h (fun s q=>q▸h s) (fun s q=>q▸h s) fun J=>trivial
noncomputable abbrev bl(b:Bool):LV:=sv (.bool b)
noncomputable abbrev il(i:Int):LV:=sv (.int i)
section
variable{α β τ σ ς:Type}{F:Fm}{L:List LC}{w:Wd}{R:Ed σ ς}{rel:Ed τ α}
theorem Uv{H:MH}{a:Nat}{c:Af}(e:H[a]? =some c):B4 (.ref a) H=.ok c H:=by
 show Cp H[a]? H=_
 rw[e];rfl
theorem Ap{H:MH}{a:Nat}{c:Af}{f:Af->M α}{r:Mine.R α}(e:H[a]? =some c)(h:f c H=r):bnd (B4 (.ref a)) f H=r:=(Av (Uv e)).trans h
theorem Bn{H:MH}{o:Option α}{x:α}(e:o=some x):Cp o H=.ok x H:=by rw[e];rfl
theorem SN{α β:Type}{R:α->β->Prop}{x:Option α}{y:Option β}{a:α}(h:OR R x y)(e:x=some a):∃b,y=some b/\R a b:=by
 cases h with
 | no=>cases e
 | so q=>cases e;exact⟨_,rfl,q⟩
theorem XX{n:Nat}{i:Int}{xs:List TV}(e:i=(n:Int))(h:n < xs.length)(hl:xs.length<=5000):0<=i/\i<=BR:=by unfold BR;(subst e;exact f4 h hl (by rfl))
theorem Ph{H:MH}{c:Prop}[Decidable c]{m m':M α}{r:Mine.R α}(h:c)(e:m H=r):(if c then m else m') H=r:=(congrFun (if_pos h) H).trans e
theorem AV.same{f:ς->M α}{x:σ}{K:Kt τ}{sc:Sc}{t:τ}(hK:∀t L' sc',Sm R rel f x L (.ok t L')->K t L' sc')(h:∀F w s,Rl F L w->R (Gz F L w) w.ρ x s->∃a,f s w.H=.ok a w.H/\rel (Gz F L w) w.ρ t a):K t L sc:=
 hK t L sc fun F w s r hs=>let⟨_,e,q⟩:=h F w s r hs;.same r e q
noncomputable def Rf(a:Nat):Tr LV LV:=fun o L sc K J=>bE (a != 3) (oE (rd Ct.i? L o) fun p=>oE (p.rec fun J fs=>look a fs) fun v=>K v L sc)
theorem Y4(a:Nat):AV AF AF (fun o=>Su o a) (Rf a):=fun o L sc K X hK hX=>
 Hd fun ha=>Ax fun p hp=>Ax fun v hv=>AV.same hK fun F w s r hs=>by
  obtain⟨b,fs,rfl,e1,e2,_⟩:=cY r hs hp
  obtain⟨u,e3,q⟩:=SN (e2.look (k:=a)) hv
  exact⟨u,Ap e1 (Bn ((Ez a fs).trans ((DF (bne_iff_ne.mp ha) fs).symm.trans e3))),q⟩
noncomputable def Ct.x?(c:Ct):Option (List TV):=c.casesOn some some (fun J=>none) (fun J=>none) fun J J=>none
inductive Zp(F:Fm)(L:List LC)(w:Wd)(v:V)(xs:List TV):Prop
 | mk (a:_) (vs:_) (q0:v=.ref a) (q1:(w.H[a]? =some (.list vs)\/w.H[a]? =some (.tup vs))) (q2:Rs (FR (Gz F L w)) xs vs) (q3:xs.length<=5000):Zp F L w v xs
theorem cR(r:Rl F L w){x:LV}{v:V}{xs:List TV}(h:AF (Gz F L w) w.ρ x v)(e:rd Ct.x? L x=some xs):Zp F L w v xs:=by
 obtain⟨ct,e1,e2⟩:=Gp e
 obtain⟨a,rfl,q⟩:=HF r h e1
 cases ct with
 | lst ys=>cases e2;exact let⟨vs,p,q⟩:=q;⟨a,vs,rfl,.inl (DB p),q.1,q.2⟩
 | tup ys=>cases e2;exact let⟨vs,p,q⟩:=q;⟨a,vs,rfl,.inr (He p),q.1,q.2⟩
 | _=>cases e2
noncomputable def UT(o i:LV):Tr Unit LV:=fun J L sc K J=>i.w?.rec
 (oE i.i? fun z=>oE (Io z) fun n=>oE (rd Ct.x? L o) fun xs=>sE sc (fun sc=>oE xs[n]? fun t=>K (.f t) L sc) (fun sc=>∀{t},xs[n]? =some t->K (.f t) L sc) (fun J=>True) fun J=>True)
 fun k=>oE (rd Ct.d? L o) fun kvs=>sE sc (fun sc=>oE (look k kvs) fun t=>K (.f t) L sc) (fun sc=>∀{t},look k kvs=some t->K (.f t) L sc) (fun J=>True) fun J=>True
theorem bY:AV (P2 AF AF) AF (fun p=>Yn p.1 p.2) (fun p L sc K X=>UT p.1 p.2 () L sc K X):=fun p L sc K X hK hX=>by
 have key:∀z n xs t sc,p.2.i? =some z->Io z=some n->rd Ct.x? L p.1=some xs->xs[n]? =some t->K (.f t) L sc:=fun z n xs t sc hz hn hx ht=>AV.same hK fun F w s r hs=>by
  obtain⟨a,vs,e,e1,e2,e3⟩:=cR r hs.1 hx
  obtain⟨u,e4,q⟩:=e2.get ht
  have hi:=EZ hz hs.2
  obtain⟨s1,s2⟩:=s
  cases e;cases hi
  have hl:=XX (JX hn) (Ew.mp ht).1 e3
  refine⟨u,?_,q⟩
  cases JX hn
  rcases e1 with e1 | e1
  .exact Ap e1 ((congrFun (if_pos hl) w.H).trans (Bn e4))
  .exact Ap e1 ((congrFun (if_pos hl) w.H).trans (Bn e4))
 have key2:∀k kvs t sc,p.2.w? =some k->rd Ct.d? L p.1=some kvs->look k kvs=some t->K (.f t) L sc:=fun k kvs t sc hz hx ht=>AV.same hK fun F w s r hs=>by
  obtain⟨a,vs,e,e1,e2,e3⟩:=aX r hs.1 hx
  obtain⟨u,e4,q⟩:=SN (e2.look (k:=k)) ht
  have hi:=JB hz hs.2
  obtain⟨s1,s2⟩:=s
  cases e;cases hi
  exact⟨u,Ap e1 (Bn ((Ez k vs).trans e4)),q⟩
 show UT p.1 p.2 () L sc K X
 unfold UT
 cases hw:p.2.w? with
 | none=>exact Ax fun z hz=>Ax fun n hn=>Ax fun xs hx=>HK (fun sc=>Ax fun t ht=>key z n xs t sc hz hn hx ht) (fun sc t ht=>key z n xs t sc hz hn hx ht) (fun J=>trivial) fun J=>trivial
 | some k=>exact Ax fun kvs hx=>HK (fun sc=>Ax fun t ht=>key2 k kvs t sc hw hx ht) (fun sc t ht=>key2 k kvs t sc hw hx ht) (fun J=>trivial) fun J=>trivial
noncomputable def X5:Tr LV LV:=fun o L sc K J=>oE (rd Ct.l? L o) fun xs=>K (il xs.length) L sc
theorem CT{n m:Nat}(h:n<=5000)(e:m=n):m<=BR:=by unfold BR;exact Nat.le_trans (Nat.le_of_eq ‹_›) (zz ‹_› (by rfl))
theorem eQ:AV AF AF VP X5:=fun o L sc K X hK hX=>Ax fun xs hx=>AV.same hK fun F w s r hs=>by
 obtain⟨a,vs,rfl,e1,e2,e3⟩:=Pp r hs hx
 refine⟨.int vs.length,Ap e1 (congrFun (if_pos (CT e3 e2.len)) w.H),?_⟩
 rw[e2.len];exact .s
noncomputable def LV.isN(v:LV):Bool:=v.casesOn (fun t=>t.casesOn (fun v=>v.casesOn true (fun J=>false) (fun J=>false) (fun J=>false) (fun J=>false) (fun J=>false) false) (fun J J=>false) false) fun J=>false
theorem XU{G:Nat->Af->Prop}{ρ:List Nat}{x:LV}{v:V}(h:AF G ρ x v):decide (v=.none)=x.isN:=by
 cases x with
 | r i=>obtain⟨a,_,rfl⟩:=h;rfl
 | f t=>cases h with
  | s=>cases v<;>rfl
  | n _ _ _=>rfl
  | u=>rfl
noncomputable def Ry(neg:Bool):Tr LV LV:=fun v L sc K J=>aS v.isN sc fun b sc=>K (bl (xor neg b)) L sc
theorem Zm(neg:Bool):AV AF AF (fun x=>ret (.bool (xor neg (decide (x=.none))))) (Ry neg):=fun o L sc K X hK hX=>Pi fun sc=>AV.same hK fun F w s r hs=>⟨_,rfl,by rw[XU hs];exact .s⟩
noncomputable def Xr(neg:Bool)(ws:List Nat):Tr LV LV:=fun v L sc K J=>oE v.w? fun i=>aS (ws.contains i) sc fun b sc=>K (bl (neg.rec b !b)) L sc
theorem cE(neg:Bool)(ws:List Nat):AV AF AF (fun x=>vW x bad fun i=>ret (.bool (xor neg (ws.contains i)))) (Xr neg ws):=fun o L sc K X hK hX=>Ax fun i hi=>Pi fun sc=>AV.same hK fun F w s r hs=>by
 cases JB hi hs
 refine⟨_,rfl,?_⟩
 have e:xor neg (ws.contains i)=neg.rec (ws.contains i) !(ws.contains i):=by cases neg<;>cases ws.contains i<;>rfl
 rw[e];exact .s
noncomputable def W6:Tr LV LV:=fun v L sc K J=>oE v.b? fun b=>K (bl !b) L sc
theorem eK:AV AF AF (fun x=>bnd (AG x) fun t=>ret (.bool !t)) W6:=fun o L sc K X hK hX=>Ax fun i hi=>AV.same hK fun F w s r hs=>by
 cases Sw hi hs;exact⟨_,rfl,.s⟩
theorem Sm.of{m m':ς->M α}{x:σ}{out:Oc τ}(h:∀{F w s},R (Gz F L w) w.ρ x s->m s=m' s)(q:Sm R rel m' x L out):Sm R rel m x L out:=fun F w s r hs=>(h hs).symm▸q F w s r hs
theorem bP{m1 m2:ς×V->M α}{k1 k2:Tr (σ×LV) τ}(h1:AV (P2 R AF) rel m1 k1)(h2:AV (P2 R AF) rel m2 k2):AV (P2 R AF) rel (fun p=>bnd (AG p.2) fun t=>if t then m1 p else m2 p) fun p L sc K X=>oE p.2.b? fun b=>b.rec (k2 p L sc K X) (k1 p L sc K X):=fun p L sc K X hK hX=>Ax fun b hb=>by
 have tr:∀{F:Fm} {w:Wd} {s:ς×V},P2 R AF (Gz F L w) w.ρ p s->bnd (AG s.2) (fun t=>if t=true then m1 s else m2 s)=if b=true then m1 s else m2 s:=fun hs=>by rw[Sw hb hs.2];rfl
 cases b with
 | true=>exact h1 p L sc K X (fun t L' sc' q=>hK t L' sc' (q.of tr)) fun t L' sc' q=>hX t L' sc' (q.of tr)
 | false=>exact h2 p L sc K X (fun t L' sc' q=>hK t L' sc' (q.of tr)) fun t L' sc' q=>hX t L' sc' (q.of tr)
end
section
variable{α β τ σ ς:Type}{F:Fm}{L L':List LC}{w:Wd}{G:Nat->Af->Prop}{ρ:List Nat}
theorem Rn.new{m:M V}{c:Af}{lc:LC}(r:Rl F L w)(hb:lc.bor=false)(e:m w.H=.ok (.ref w.H.length) (w.H++[c]))(hc:∀G' ρ',Le (Gz F L w) G'->w.ρ <+:ρ'->Qx G' ρ' (some (dm c)) w.H.length lc):Rn F L w m AF (.ok (.r L.length) (L++[lc])):=
 ⟨_,⟨w.ρ++[w.H.length],w.H++[c]⟩,e,Q5 r hb hc,w.H.length,by rw[<-r.len,List.getElem?_append_right (Nat.le_refl _),Nat.sub_self];rfl,rfl⟩
theorem Rn.newL{m:M V}{xs:List TV}{vs:List V}(r:Rl F L w)(h:Rs (FR (Gz F L w)) xs vs)(hl:xs.length<=5000)(e:m w.H=.ok (.ref w.H.length) (w.H++[.list vs])):Rn F L w m AF (.ok (.r L.length) (L++[.lst false xs])):=
 .new r rfl e fun J J l J=>⟨vs,rfl,h.mono fun J J=>FR.mono l,hl⟩
noncomputable def LV.r?(v:LV):Option Nat:=v.casesOn (fun J=>none) some
noncomputable def LC.l?(c:LC):Option (Bool×List TV):=c.casesOn (fun b xs=>some (b,xs)) (fun J=>none) (fun J=>none) (fun J J=>none) fun J=>none
theorem UD{c:LC}{p:Bool×List TV}(e:c.l? =some p):c=.lst p.1 p.2:=by
 cases c with
 | lst b xs=>cases e;rfl
 | _=>cases e
theorem RI{x:LV}{v:V}{i:Nat}(e:x.r? =some i)(h:AF G ρ x v):∃a,ρ[i]? =some a/\v=.ref a:=by
 cases x with
 | f t=>cases e
 | r j=>cases e;exact h
theorem GW(r:Rl F L w){i a:Nat}{b:Bool}{xs ys:List TV}{us:List V}(hi:w.ρ[i]? =some a)(hm:L[i]? =some (.lst b xs))(h:Rs (FR (Gz F L w)) ys us)(hl:ys.length<=5000):Nx F L w (L.set i (.lst b ys)) ⟨w.ρ,w.H.set a (.list us)⟩:=
 I1 r hi hm rfl rfl (by rw[List.length_set];exact Nat.le_refl _) (fun J J h=>Fu h) fun l=>⟨us,EY (r.lt i a hi),h.mono fun J J=>FR.mono l,hl⟩
theorem R7(r:Rl F L w){i a:Nat}{xs ys:List (Nat×TV)}{us:List (Nat×V)}(hi:w.ρ[i]? =some a)(hm:L[i]? =some (.dct xs))(h:Rs (KR (FR (Gz F L w))) ys us)(hl:ys.length<=90):Nx F L w (L.set i (.dct ys)) ⟨w.ρ,w.H.set a (.dictW us)⟩:=
 I1 r hi hm rfl rfl (by rw[List.length_set];exact Nat.le_refl _) (fun J J h=>Fu h) fun l=>⟨us,EY (r.lt i a hi),h.mono (KR.mono fun J J=>FR.mono l),hl⟩
theorem Xa(r:Rl F L w){i a:Nat}{xs ys:List (Int×TV)}{us:List (Int×V)}(hi:w.ρ[i]? =some a)(hm:L[i]? =some (.dci xs))(h:Rs (KR (FR (Gz F L w))) ys us)(hl:ys.length<=90):Nx F L w (L.set i (.dci ys)) ⟨w.ρ,w.H.set a (.dictI us)⟩:=
 I1 r hi hm rfl rfl (by rw[List.length_set];exact Nat.le_refl _) (fun J J h=>Fu h) fun l=>⟨us,EY (r.lt i a hi),h.mono (KR.mono fun J J=>FR.mono l),hl⟩
noncomputable def LC.fr(c:LC):Option TV:=c.casesOn (fun b xs=>b.rec (some (.n .lst xs)) none) (fun kvs=>some (.n (.dct (kvs.map (·.1))) (kvs.map (·.2)))) (fun J=>none) (fun J J=>none) some
noncomputable def eY(L:List LC)(v:LV):Option (TV×List LC):=v.casesOn (fun t=>some (t,L)) fun i=>(L[i]?).rec none fun c=>c.bor.rec (c.fr.rec none fun t=>some (t,L.set i (.fz t))) (some (.u,L))
theorem LX{R:TV->V->Prop}{as:List (Nat×TV)}{bs:List (Nat×V)}(h:Rs (KR R) as bs):bs=(as.map (·.1)).zip (bs.map (·.2))/\Rs R (as.map (·.2)) (bs.map (·.2)):=by
 induction h with
 | nil=>exact⟨rfl,.nil⟩
 | @cons a b as bs x _ ih=>
  refine⟨?_,.cons x.2 ih.2⟩
  show b::bs=(a.1,b.2)::_
  rw[x.1];exact congrArg (List.cons b) ih.1
theorem Zg{o:Option Af}{a:Nat}{c:LC}{t:TV}(h:Qx G ρ o a c)(e:c.fr=some t)(hG:∀x,o=some x->G a x):FR G t (.ref a):=by
 cases c with
 | lst b xs=>cases b with
  | false=>cases e;exact let⟨vs,e,h,l⟩:=h;.n (k:= .lst) (hG _ e) l (IJ h)
  | true=>cases e
 | dct kvs=>
  cases e
  obtain⟨q,e,h,l⟩:=h
  obtain⟨e2,h2⟩:=LX h
  exact .n (k:= .dct _) (hG _ (e.trans (congrArg (fun x=>some (Af.dictW x)) e2))) (by rw[List.length_map];exact l) (IJ h2)
 | fz t=>cases e;exact h
 | _=>cases e
theorem QX(r:Rl F L w){x:LV}{v:V}{p:TV×List LC}(h:AF (Gz F L w) w.ρ x v)(e:eY L x=some p):Nx F L w p.2 w/\FR (Gz F p.2 w) p.1 v:=by
 cases x with
 | f t=>cases e;exact⟨.refl r,h⟩
 | r i=>
  obtain⟨a,h1,rfl⟩:=h
  obtain⟨c,e1,e⟩:=ob e
  cases hb:c.bor with
  | true=>rw[hb]at e;cases e;exact⟨.refl r,.u⟩
  | false=>
   rw[hb]at e
   obtain⟨t,e2,e⟩:=ob e
   cases e
   exact Tt r h1 e1 hb fun G' l hG=>Zg ((r.cells i a c h1 e1).mono l (List.prefix_refl _)) e2 hG
noncomputable def fW(fs:List (Nat×LV)):List LC->Option (List (Nat×TV)×List LC):=fs.rec (fun L=>some ([],L)) fun p J ih L=>p.rec fun a v=>(eY L v).rec none fun q=>q.rec fun t L=>(ih L).rec none fun s=>s.rec fun ts L=>some ((a,t)::ts,L)
theorem XQ{fs:List (Nat×LV)}:∀{L:List LC} {q:List (Nat×V)} {p:List (Nat×TV)×List LC},Rl F L w->Rs (KR (AF (Gz F L w) w.ρ)) fs q->fW fs L=some p->Nx F L w p.2 w/\Rs (KR (FR (Gz F p.2 w))) p.1 q:=by
 induction fs with
 | nil=>intro L q p r h e;cases e;cases h;exact⟨.refl r,.nil⟩
 | cons f fs ih=>
  intro L q p r h e
  cases h with
  | cons x y=>
   obtain⟨u,e1,e⟩:=ob e
   obtain⟨s,e2,e⟩:=ob e
   cases e
   obtain⟨n1,f1⟩:=QX r x.2 e1
   obtain⟨n2,f2⟩:=ih n1.r (y.mono (KR.mono fun J J=>AF.mono n1.l n1.p)) e2
   exact⟨n1.trans n2,.cons ⟨x.1,FR.mono n2.l f1⟩ f2⟩
noncomputable def LC.i?(c:LC):Option (Dx×List (Nat×LV)):=c.casesOn (fun J J=>none) (fun J=>none) (fun J=>none) (fun k fs=>some (k,fs)) fun J=>none
noncomputable def fz(L:List LC)(v:LV):Option (TV×List LC):=v.casesOn (fun t=>some (t,L)) fun i=>(L[i]?).rec none fun c=>c.i?.rec (eY L (.r i)) fun p=>p.rec fun k fs=>(fW fs L).rec none fun q=>q.rec fun ts L=>(L[i]?).rec none fun c'=>c'.bor.rec (some (.n (.ins k (ts.map (·.1))) (ts.map (·.2)),L.set i (.fz (.n (.ins k (ts.map (·.1))) (ts.map (·.2)))))) none
theorem GQ(r:Rl F L w){x:LV}{v:V}{p:TV×List LC}(h:AF (Gz F L w) w.ρ x v)(e:fz L x=some p):Nx F L w p.2 w/\FR (Gz F p.2 w) p.1 v:=by
 cases x with
 | f t=>cases e;exact⟨.refl r,h⟩
 | r i=>
  obtain⟨c,e1,e⟩:=ob e
  cases hc:c.i? with
  | none=>rw[hc]at e;exact QX r h e
  | some k=>
   rw[hc]at e
   obtain⟨a,h1,rfl⟩:=h
   obtain⟨q,e2,e⟩:=ob e
   obtain⟨c',e3,e⟩:=ob e
   cases hb:c'.bor with
   | true=>rw[hb]at e;cases e
   | false=>
    rw[hb]at e
    cases e
    cases c with
    | ins cl fs=>
     cases hc
     obtain⟨vs,g1,g2,g3⟩:=r.cells i a _ h1 e1
     obtain⟨n1,f1⟩:=XQ r g2 e2
     obtain⟨u1,u2⟩:=LX f1
     have hl:q.1.length<=90:=by rw[<-f1.len,g2.len];exact g3
     obtain⟨n2,f2⟩:=Tt n1.r h1 e3 hb fun G' l hG=> .n (k:= .ins cl _) (hG _ (g1.trans (congrArg (fun x=>some (Af.inst cl x)) u1))) (by rw[List.length_map];exact hl) (IJ (u2.mono fun J J=>FR.mono l))
     exact⟨n1.trans n2,f2⟩
    | _=>cases hc
noncomputable def ZC(vs:List LV):List LC->Option (List TV×List LC):=vs.rec (fun L=>some ([],L)) fun v J ih L=>(fz L v).rec none fun q=>q.rec fun t L=>(ih L).rec none fun s=>s.rec fun ts L=>some (t::ts,L)
theorem Ku{vs:List LV}:∀{L:List LC} {q:List V} {p:List TV×List LC},Rl F L w->Rs (AF (Gz F L w) w.ρ) vs q->ZC vs L=some p->Nx F L w p.2 w/\Rs (FR (Gz F p.2 w)) p.1 q:=by
 induction vs with
 | nil=>intro L q p r h e;cases e;cases h;exact⟨.refl r,.nil⟩
 | cons f fs ih=>
  intro L q p r h e
  cases h with
  | cons x y=>
   obtain⟨u,e1,e⟩:=ob e
   obtain⟨s,e2,e⟩:=ob e
   cases e
   obtain⟨n1,f1⟩:=GQ r x e1
   obtain⟨n2,f2⟩:=ih n1.r (y.mono fun J J=>AF.mono n1.l n1.p) e2
   exact⟨n1.trans n2,.cons (FR.mono n2.l f1) f2⟩
end
section
variable{α β τ σ ς:Type}{F:Fm}{L L':List LC}{w:Wd}{G:Nat->Af->Prop}{ρ:List Nat}
noncomputable abbrev RU:Ed Unit Unit:=fun J J J J=>True
noncomputable abbrev newL(L:List LC)(xs:List TV)(sc:Sc)(K:Kt LV):Prop:=K (.r L.length) (L++[.lst false xs]) sc
noncomputable def KV:Tr LV LV:=fun o L sc K J=>oE (rd Ct.l? L o) fun xs=>newL L xs sc K
theorem T3:AV AF AF OP KV:=fun o L sc K X hK hX=>Ax fun xs hx=>hK _ _ _ fun F w s r hs=>by
 obtain⟨a,vs,rfl,e1,e2,e3⟩:=Pp r hs hx
 exact .newL r e2 e3 (Ap e1 (congrFun (if_pos (CT e3 e2.len)) w.H))
noncomputable def Lk:Tr LV LV:=fun o L sc K J=>oE (rd Ct.d? L o) fun kvs=>K (.r L.length) (L++[.dct kvs]) sc
theorem Vr:AV AF AF OE Lk:=fun o L sc K X hK hX=>Ax fun xs hx=>hK _ _ _ fun F w s r hs=>by
 obtain⟨a,vs,rfl,e1,e2,e3⟩:=aX r hs hx
 exact .new r rfl (Ap e1 (congrFun (if_pos (by rw[e2.len];exact Nat.lt_of_le_of_lt e3 (by decide))) w.H)) fun G' ρ' l J=>⟨vs,rfl,e2.mono (KR.mono fun J J=>FR.mono l),e3⟩
noncomputable def XE:Tr LV LV:=fun o L sc K J=>oE o.i? fun i=>0<=i->i<=100000->K (sv (.dec i)) L sc
theorem eW:AV AF AF Ve XE:=fun o L sc K X hK hX=>Ax fun i hi h0 h1=>AV.same hK fun F w s r hs=>by
 cases EZ hi hs;exact⟨_,congrFun (if_pos ⟨h0,h1⟩) w.H,.s⟩
noncomputable def Z3(a b:LV):Tr Unit LV:=fun J L sc K J=>oE a.i? fun x=>oE b.i? fun y=>tE (y > x) sc fun b sc=>K (il (b.rec x y)) L sc
theorem bW:AV (P2 AF AF) AF (fun p=>XA p.1 p.2) (fun p=>Z3 p.1 p.2 ()):=fun p L sc K X hK hX=>Ax fun x hx=>Ax fun y hy=>ZI fun sc=>AV.same hK fun F w s r hs=>by
 obtain⟨s1,s2⟩:=s
 cases EZ hx hs.1;cases EZ hy hs.2
 refine⟨_,rfl,?_⟩
 by_cases h:y > x
 .rw [if_pos h,decide_eq_true h];exact .s
 .rw [if_neg h,decide_eq_false h];exact .s
noncomputable def Tz:Tr LV LV:=fun o L sc K J=>oE (rd Ct.i? L o) fun p=>p.1.casesOn True (K (bl true) L sc)
theorem Zv:AV AF AF I3 Tz:=fun o L sc K X hK hX=>Ax fun p hp=>by
 obtain⟨c,fs⟩:=p
 cases c with
 | null=>trivial
 | vector=>exact AV.same hK fun F w s r hs=>let⟨a,fs,e,e1,_,_,_⟩:=cY r hs hp;⟨_,e▸Ap e1 rfl,.s⟩
noncomputable def gB(v:V)(t:Ty):Option Bool:=v.casesOn none (fun J=>none) (fun J=>t.casesOn (some false) (some true) none) (fun J=>t.casesOn (some true) (some false) none) (fun J=>none) (fun J=>none) none
noncomputable def Ct.ty(c:Ct)(t:Ty):Option Bool:=c.casesOn (fun J=>t.casesOn none none (some true)) (fun J=>t.casesOn none none (some false)) (fun J=>none) (fun J=>none) fun J J=>t.casesOn (some false) none none
noncomputable def bR(t:Ty):Tr LV LV:=fun v L sc K J=>v.s?.rec (oE (rd (fun c=>c.ty t) L v) fun b=>K (bl b) L sc) fun x=>oE (gB x t) fun b=>K (bl b) L sc
section
variable{H:MH}{a:Nat}
theorem Qv{c:Af}{t:Ty}{b:Bool}(e:H[a]? =some c)(h:dX t c=some b):O3 (.ref a) t H=.ok (.bool b) H:=Ap e (Av (Bn h))
end
theorem gS(t:Ty):AV AF AF (fun v=>O3 v t) (bR t):=fun v L sc K X hK hX=>by
 unfold bR
 cases hv:v.s? with
 | some x=>
  exact Ax fun b hb=>AV.same hK fun F w s r hs=>by
   rw[NU hv hs]
   cases x<;>cases t<;>cases hb<;>exact⟨_,rfl,.s⟩
 | none=>
  exact Ax fun b hb=>AV.same hK fun F w s r hs=>by
   obtain⟨ct,e1,e2⟩:=Gp hb
   obtain⟨a,rfl,q⟩:=HF r hs e1
   refine⟨.bool b,?_,.s⟩
   cases ct with
   | lst xs=>obtain⟨vs,q,_⟩:=q;exact Qv (DB q) e2
   | tup xs=>obtain⟨vs,q,_⟩:=q;exact Qv (He q) e2
   | ins c xs=>obtain⟨vs,q,_⟩:=q;obtain⟨fs,q,_⟩:=H8 q;exact Qv q e2
   | dct xs=>cases e2
   | dci xs=>cases e2
noncomputable def R2:Tr LV Unit:=fun o L sc K J=>oE (rd Ct.l? L o) fun J=>K () L sc
theorem Wc:AV AF RU R6 R2:=fun o L sc K X hK hX=>Ax fun xs hx=>AV.same hK fun F w s r hs=>by
 obtain⟨a,vs,rfl,e1,_⟩:=Pp r hs hx
 exact⟨(),Ap e1 rfl,trivial⟩
noncomputable def QL:Tr LV Unit:=fun o L sc K J=>oE (rd Ct.d? L o) fun J=>K () L sc
theorem Wj:AV AF RU T6 QL:=fun o L sc K X hK hX=>Ax fun xs hx=>AV.same hK fun F w s r hs=>by
 obtain⟨a,vs,rfl,e1,_⟩:=aX r hs hx
 exact⟨(),Ap e1 rfl,trivial⟩
noncomputable def V0:Tr LV Unit:=fun o L sc K J=>oE o.w? fun J=>K () L sc
theorem Zk:AV AF RU Xb V0:=fun o L sc K X hK hX=>Ax fun xs hx=>AV.same hK fun F w s r hs=>by
 cases JB hx hs;exact⟨(),rfl,trivial⟩
noncomputable abbrev RB:Ed Bool Bool:=fun J J a b=>a=b
noncomputable def Ct.tp(c:Ct):Option Bool:=c.casesOn (fun J=>some false) (fun J=>some true) (fun J=>none) (fun J=>none) fun J J=>none
noncomputable def Wn:Tr LV Bool:=fun o L sc K J=>oE (rd Ct.tp L o) fun b=>K b L sc
theorem aE:AV AF RB W1 Wn:=fun o L sc K X hK hX=>Ax fun b hb=>AV.same hK fun F w s r hs=>by
 obtain⟨ct,e1,e2⟩:=Gp hb
 obtain⟨a,rfl,q⟩:=HF r hs e1
 cases ct with
 | lst xs=>cases e2;exact let⟨vs,q,_⟩:=q;⟨false,Ap (DB q) rfl,rfl⟩
 | tup xs=>cases e2;exact let⟨vs,q,_⟩:=q;⟨true,Ap (He q) rfl,rfl⟩
 | _=>cases e2
noncomputable def DM(k:Nat)(t:TV):Bool:=t.casesOn (J9 k) (fun J J=>false) false
noncomputable def Ui(t:TV):Bool:=t.casesOn wn (fun J J=>false) false
noncomputable def WL(t:TV):Bool:=t.casesOn QH (fun J J=>false) false
theorem KM{k:Nat}{t:TV}{v:V}(h:FR G t v):DM k t=J9 k v:=by
 cases h with
 | s=>rfl
 | n=>exact(decide_eq_false fun h=>by cases h).symm
 | u=>exact(decide_eq_false fun h=>by cases h).symm
theorem Nm{t:TV}{v:V}(h:FR G t v):Ui t=wn v:=by
 cases h<;>rfl
theorem VJ{t:TV}{v:V}(h:FR G t v):WL t=QH v:=by
 cases h<;>rfl
theorem Ll{f:TV->Bool}{g:V->Bool}(hf:∀{t v},FR G t v->f t=g v){xs:List TV}{vs:List V}(h:Rs (FR G) xs vs):vs.all g=xs.all f:=by
 induction h with
 | nil=>rfl
 | cons x _ ih=>rw[List.all_cons,List.all_cons,hf x,ih]
theorem XK{f:TV->Bool}{g:V->Bool}(hf:∀{t v},FR G t v->f t=g v){xs:List TV}{vs:List V}(h:Rs (FR G) xs vs):vs.any g=xs.any f:=by
 induction h with
 | nil=>rfl
 | cons x _ ih=>rw[List.any_cons,List.any_cons,hf x,ih]
theorem Sb{f:TV->Bool}{g:V->Bool}(hf:∀{t v},FR G t v->f t=g v){xs:List TV}{vs:List V}(h:Rs (FR G) xs vs):vs.findIdx? g=xs.findIdx? f:=by
 induction h with
 | nil=>rfl
 | cons x _ ih=>rw[List.findIdx?_cons,List.findIdx?_cons,hf x,ih]
noncomputable def bJ(x c:LV)(L:List LC)(sc:Sc)(k:Bool->Sc->Prop):Prop:=x.w?.rec
 (oE x.i? fun i=>oE (rd Ct.e? L c) fun kvs=>aS (look i kvs).isSome sc k)
 fun j=>(rd Ct.x? L c).rec (oE (rd Ct.d? L c) fun kvs=>aS (look j kvs).isSome sc k) fun xs=>sE sc (fun sc=>bE (xs.all Ui) (k (xs.any (DM j)) sc)) (fun sc=>xs.all Ui=true->xs.any (DM j)=true->k true sc) (fun sc=>xs.all Ui=true->xs.any (DM j)=false->k false sc) fun J=>True
theorem Kc{α β:Type}{R:α->β->Prop}{x:Option α}{y:Option β}(h:OR R x y):y.isSome=x.isSome:=by
 cases h<;>rfl
section
variable{H:MH}{a:Nat}
theorem Ux{xs:List V}{k:Nat}(e:H[a]? =some (.list xs))(h:xs.all wn=true):Sz (.w k) (.ref a) H=.ok (xs.any (J9 k)) H:=Ap e (congrFun (if_pos h) H)
theorem WZ{xs:List V}{k:Nat}(e:H[a]? =some (.tup xs))(h:xs.all wn=true):Sz (.w k) (.ref a) H=.ok (xs.any (J9 k)) H:=Ap e (congrFun (if_pos h) H)
theorem VI{xs:List (Nat×V)}{k:Nat}(e:H[a]? =some (.dictW xs)):Sz (.w k) (.ref a) H=.ok (Dr k xs).isSome H:=Ap e rfl
theorem S4{xs:List (Int×V)}{k:Int}(e:H[a]? =some (.dictI xs)):Sz (.int k) (.ref a) H=.ok (Fi k xs).isSome H:=Ap e rfl
end
theorem fB{x c:LV}{sc:Sc}{k:Bool->Sc->Prop}(h:∀b sc,(∀F w x' c',Rl F L w->AF (Gz F L w) w.ρ x x'->AF (Gz F L w) w.ρ c c'->Sz x' c' w.H=.ok b w.H)->k b sc):bJ x c L sc k:=by
 have key:∀{xs:List TV} {j:Nat} {sc:Sc},x.w? =some j->rd Ct.x? L c=some xs->xs.all Ui=true->k (xs.any (DM j)) sc:=fun {xs j sc} hw hx ha=>h _ _ fun F w x' c' r h1 h2=>by
  cases JB hw h1
  obtain⟨a,vs,rfl,e1,e2,_⟩:=cR r h2 hx
  have e3:=(Ll Nm e2).trans ha
  rw[<-XK KM e2]
  exact e1.elim (fun e1=>Ux e1 e3) fun e1=>WZ e1 e3
 unfold bJ
 cases hw:x.w? with
 | none=>
  exact Ax fun i hi=>Ax fun kvs hk=>Pi fun sc=>h _ _ fun F w x' c' r h1 h2=>by
   cases EZ hi h1
   obtain⟨a,vs,rfl,e1,e2,_⟩:=hF r h2 hk
   rw[S4 e1,L4,Kc e2.look]
 | some j=>
  show Option.rec _ _ (rd Ct.x? L c)
  cases hx:rd Ct.x? L c with
  | none=>
   exact Ax fun kvs hk=>Pi fun sc=>h _ _ fun F w x' c' r h1 h2=>by
    cases JB hw h1
    obtain⟨a,vs,rfl,e1,e2,_⟩:=aX r h2 hk
    rw[VI e1,Ez,Kc e2.look]
  | some xs=>exact HK (fun sc=>Hd fun h=>key hw hx h) (fun sc h1 h2=>h2▸key hw hx h1) (fun sc h1 h2=>h2▸key hw hx h1) fun J=>trivial
end
section
variable{α β τ σ ς:Type}{F:Fm}{L L':List LC}{w:Wd}{G:Nat->Af->Prop}{ρ:List Nat}
noncomputable abbrev LL:Ed (LV×LV) (V×V):=P2 AF AF
noncomputable def OL(a b:LV):Tr Unit LV:=fun J L sc K J=>oE a.w? fun i=>oE b.w? fun j=>sE sc (fun sc=>oE (F7 i j) fun t=>K (bl t) L sc) (fun sc=>∀{t},F7 i j=some t->K (bl t) L sc) (fun J=>True) fun J=>True
theorem Ut:AV LL AF (fun p=>Kr F7 p.1 p.2) (fun p=>OL p.1 p.2 ()):=fun p L sc K X hK hX=>by
 have key:∀{i j t sc},p.1.w? =some i->p.2.w? =some j->F7 i j=some t->K (bl t) L sc:=fun {i j t sc} hi hj ht=>AV.same hK fun F w s r hs=>by
  obtain⟨s1,s2⟩:=s
  cases JB hi hs.1;cases JB hj hs.2
  exact⟨.bool t,Av (Bn ht),.s⟩
 exact Ax fun i hi=>Ax fun j hj=>HK (fun sc=>Ax fun t ht=>key hi hj ht) (fun sc t ht=>key hi hj ht) (fun J=>trivial) fun J=>trivial
noncomputable def RC(o:LV)(tp:Bool)(x:LV):Tr Unit LV:=fun J L sc K J=>oE x.w? fun k=>oE (rd (fun c=>tp.rec c.l? c.t?) L o) fun xs=>sE sc (fun sc=>bE (xs.all Ui) (oE (xs.findIdx? (DM k)) fun(i:Nat)=>K (il (i:Int)) L sc)) (fun sc=>xs.all Ui=true->∀{i:Nat},xs.findIdx? (DM k)=some i->K (il i) L sc) (fun J=>True) fun J=>True
theorem YA:AV (P2 (P2 AF RB) AF) AF (fun p=>Nk p.1.2 p.1.1 p.2) (fun p=>RC p.1.1 p.1.2 p.2 ()):=fun p L sc K X hK hX=>by
 have key:∀{k i:Nat} {xs sc},p.2.w? =some k->rd (fun c=>p.1.2.rec c.l? c.t?) L p.1.1=some xs->xs.all Ui=true->xs.findIdx? (DM k)=some i->K (il i) L sc:=fun {k i xs sc} hw hx ha ht=>AV.same hK fun F w s r hs=>by
  obtain⟨⟨s1,s2⟩,s3⟩:=s
  obtain⟨⟨p1,p2⟩,p3⟩:=p
  cases JB hw hs.2
  cases hs.1.2
  refine⟨.int i,?_,.s⟩
  cases s2 with
  | false=>
   obtain⟨a,vs,e,e1,e2,e3⟩:=Pp r hs.1.1 hx
   cases e
   exact Ap e1 (Ph ⟨(Ll Nm e2).trans ha,CT e3 e2.len⟩ (Av (Bn ((Sb KM e2).trans ht))))
  | true=>
   obtain⟨a,vs,e,e1,e2,e3⟩:=fG r hs.1.1 hx
   cases e
   exact Ap e1 (Ph ⟨(Ll Nm e2).trans ha,CT e3 e2.len⟩ (Av (Bn ((Sb KM e2).trans ht))))
 exact Ax fun k hk=>Ax fun xs hx=>HK (fun sc=>Hd fun ha=>Ax fun t ht=>key hk hx ha ht) (fun sc ha t ht=>key hk hx ha ht) (fun J=>trivial) fun J=>trivial
noncomputable def Yv(o k d:LV):Tr Unit LV:=fun J L sc K J=>oE k.w? fun i=>oE (rd Ct.d? L o) fun kvs=>sE sc (fun sc=>(look i kvs).rec (K d L sc) fun t=>K (.f t) L sc) (fun sc=>∀{t},look i kvs=some t->K (.f t) L sc) (fun sc=>look i kvs=none->K d L sc) fun J=>True
theorem Zt:AV (P2 LL AF) AF (fun p=>PS p.1.1 p.1.2 p.2) (fun p=>Yv p.1.1 p.1.2 p.2 ()):=fun p L sc K X hK hX=>by
 have ev:∀{i kvs F w s},p.1.2.w? =some i->rd Ct.d? L p.1.1=some kvs->Rl F L w->P2 LL AF (Gz F L w) w.ρ p s->∃q,OR (FR (Gz F L w)) (look i kvs) q/\PS s.1.1 s.1.2 s.2 w.H=.ok (q.getD s.2) w.H:=fun {i kvs F w s} hi hk r hs=>by
  obtain⟨⟨s1,s2⟩,s3⟩:=s
  cases JB hi hs.1.2
  obtain⟨a,vs,e,e1,e2,e3⟩:=aX r hs.1.1 hk
  cases e
  exact⟨_,e2.look,Ap e1 (by rw[<-Ez];rfl)⟩
 have k1:∀{i kvs t sc},p.1.2.w? =some i->rd Ct.d? L p.1.1=some kvs->look i kvs=some t->K (.f t) L sc:=fun hi hk ht=>AV.same hK fun F w s r hs=>by
  obtain⟨q,o,e⟩:=ev hi hk r hs
  obtain⟨b,rfl,q⟩:=SN o ht
  exact⟨b,e,q⟩
 have k2:∀{i kvs sc},p.1.2.w? =some i->rd Ct.d? L p.1.1=some kvs->look i kvs=none->K p.2 L sc:=fun hi hk ht=>AV.same hK fun F w s r hs=>by
  obtain⟨q,o,e⟩:=ev hi hk r hs
  rw[ht]at o
  cases o
  exact⟨s.2,e,hs.2⟩
 refine Ax fun i hi=>Ax fun kvs hk=>HK (fun sc=> ?_) (fun sc t ht=>k1 hi hk ht) (fun J ht=>k2 hi hk ht) fun J=>trivial
 cases h:look i kvs with
 | none=>exact k2 hi hk h
 | some t=>exact k1 hi hk h
noncomputable def Za(L:List LC)(o:LV)(k:Nat->Bool->List TV->Prop):Prop:=oE o.r? fun i=>oE (L[i]?) fun c=>oE c.l? fun p=>p.rec (k i)
theorem OH{o:LV}{k:Nat->Bool->List TV->Prop}(h:∀i b xs,o.r? =some i->L[i]? =some (.lst b xs)->k i b xs):Za L o k:=Ax fun i hi=>Ax fun c hc=>Ax fun p hp=>h i p.1 p.2 hi (hc.trans (congrArg some (UD hp)))
inductive R0(F:Fm)(L:List LC)(w:Wd)(i:Nat)(xs:List TV)(v:V):Prop
 | mk (a:_) (vs:_) (q0:v=.ref a) (q1:w.ρ[i]? =some a) (q2:w.H[a]? =some (.list vs)) (q3:Rs (FR (Gz F L w)) xs vs) (q4:xs.length<=5000):R0 F L w i xs v
theorem Pf(r:Rl F L w){i:Nat}{b:Bool}{xs:List TV}{o:LV}{v:V}(hi:o.r? =some i)(hm:L[i]? =some (.lst b xs))(h:AF (Gz F L w) w.ρ o v):R0 F L w i xs v:=by
 obtain⟨a,e,rfl⟩:=RI hi h
 exact let⟨vs,e1,e2⟩:=r.cells i a _ e hm;⟨a,vs,rfl,e,DB e1,e2.1,e2.2⟩
theorem Ia{H:MH}{a:Nat}{c:Af}{f:Unit->M α}{r:Mine.R α}(h:f () (H.set a c)=r):bnd (D6 (.ref a) c) f H=r:=h
noncomputable def X8:Tr LV LV:=fun o L sc K J=>Za L o fun i b xs=>∀{ys z},xs=ys++[.s (.int z)]->xs.all WL=true->K (il z) (L.set i (.lst b ys)) sc
theorem dE:AV AF AF TL X8:=fun o L sc K X hK hX=>OH fun i b xs hi hm ys z hx ha=>hK _ _ _ fun F w s r hs=>by
 obtain⟨a,vs,rfl,e,e1,e2,e3⟩:=Pf r hi hm hs
 subst hx
 obtain⟨us,u,rfl,h1,h2⟩:=e2.snoc
 cases h2
 refine⟨.int z,⟨w.ρ,w.H.set a (.list us)⟩,Ap e1 (Ph ⟨CT e3 e2.len,(Ll VJ e2).trans ha⟩ ((Av (Bn List.getLast?_concat)).trans ?_)),GW r e hm h1 (by rw[C1]at e3;exact Nat.le_trans (Nat.le_add_right _ _) e3),.s⟩
 rw[List.dropLast_concat];rfl
noncomputable def Ym:Tr LV LV:=fun o L sc K J=>Za L o fun i b xs=>K (sv .none) (L.set i (.lst b xs.reverse)) sc
theorem dR:AV AF AF GK Ym:=fun o L sc K X hK hX=>OH fun i b xs hi hm=>hK _ _ _ fun F w s r hs=>by
 obtain⟨a,vs,rfl,e,e1,e2,e3⟩:=Pf r hi hm hs
 exact⟨.none,⟨w.ρ,w.H.set a (.list vs.reverse)⟩,Ap e1 (congrFun (if_pos (CT e3 e2.len)) w.H),GW r e hm e2.rev (by rw[List.length_reverse];exact e3),.s⟩
noncomputable def X9(L:List LC)(v:LV)(k:TV->List LC->Prop):Prop:=oE (fz L v) fun p=>p.rec k
noncomputable def Zd(o v:LV):Tr Unit LV:=fun J L sc K J=>X9 L v fun t L=>Za L o fun i b xs=>Nat.lt xs.length 5000->K (sv .none) (L.set i (.lst b (xs++[t]))) sc
theorem eD:AV LL AF (fun p=>H6 p.1 p.2) (fun p=>Zd p.1 p.2 ()):=fun p L sc K X hK hX=>Ax fun q hq=>OH fun i b xs hi hm hl=>hK _ _ _ fun F w s r hs=>by
 obtain⟨s1,s2⟩:=s
 obtain⟨n,f⟩:=GQ r hs.2 hq
 obtain⟨a,vs,e0,e,e1,e2,e3⟩:=Pf n.r hi hm (AF.mono n.l n.p hs.1)
 cases e0
 exact⟨.none,⟨w.ρ,w.H.set a (.list (vs++[s2]))⟩,Ap e1 (congrFun (if_pos (CT e3 e2.len)) w.H),n.trans (GW n.r e hm (e2.app (.cons f .nil)) (by rw[C1];exact hl)),.s⟩
noncomputable def W9(o v:LV):Tr Unit LV:=fun J L sc K J=>oE (rd Ct.l? L v) fun ys=>Za L o fun i b xs=>bE (v.r?.rec true fun j=> !Nat.beq i j) (xs.length+ys.length<=5000->K (sv .none) (L.set i (.lst b (xs++ys))) sc)
theorem aV{a:Nat}{i:Nat}{c:LC}{t:TV}(hi:w.ρ[i]? =some a)(hm:L[i]? =some c)(hc:c.mut=true)(h:FR (Gz F L w) t (.ref a))(ht:t.ct≠none):False:=by
 cases h with
 | s=>exact ht rfl
 | u=>exact ht rfl
 | n h _ _=>exact h.1 (.inr ⟨i,c,hi,hm,hc⟩)
theorem Z2:AV LL AF (fun p=>CI p.1 p.2) (fun p=>W9 p.1 p.2 ()):=fun p L sc K X hK hX=>Ax fun ys hy=>OH fun i b xs hi hm=>Hd fun hb hl=>hK _ _ _ fun F w s r hs=>by
 obtain⟨s1,s2⟩:=s
 obtain⟨a,vs,e0,e,e1,e2,e3⟩:=Pf r hi hm hs.1
 obtain⟨a2,us,e5,f1,f2,f3⟩:=Pp r hs.2 hy
 cases e0;cases e5
 have ne:a≠a2:=fun h=>by
  subst h
  obtain⟨p1,p2⟩:=p
  cases p2 with
  | f t=>exact aV e hm rfl hs.2 fun h=>by obtain⟨ct,c1,c2⟩:=Gp hy;cases h.symm.trans c1
  | r j=>
   obtain⟨a',q1,q2⟩:=hs.2
   cases q2
   cases r.nd i j a e q1
   have hb:(!Nat.beq i i)=true:=hb
   rw[Nat.beq_eq.mpr rfl]at hb
   cases hb
 refine⟨.none,⟨w.ρ,w.H.set a (.list (vs++us))⟩,?_,GW r e hm (e2.app f2) (by rw[C1];exact hl),.s⟩
 show CI (.ref a) (.ref a2) w.H=_
 unfold CI
 rw[if_neg fun h=>ne (V.ref.inj h)]
 exact Ap e1 (Ap f1 (Ph (by rw[e2.len,f2.len];exact Nat.le_trans hl (by decide)) rfl))
end
section
variable{α β τ σ ς:Type}{F:Fm}{L L':List LC}{w:Wd}{G:Nat->Af->Prop}{ρ:List Nat}{H:MH}
noncomputable def MP(o k:LV):Tr Unit LV:=fun J L sc K J=>oE k.i? fun z=>oE (Io z) fun n=>oE (rd Ct.l? L o) fun xs=>Nat.le n BR->newL L (xs.drop n) sc K
theorem RZ:AV LL AF (fun p=>cutFrom p.1 p.2) (fun p=>MP p.1 p.2 ()):=fun p L sc K X hK hX=>Ax fun z hz=>Ax fun n hn=>Ax fun xs hx hl=>hK _ _ _ fun F w s r hs=>by
 obtain⟨s1,s2⟩:=s
 cases EZ hz hs.2
 cases JX hn
 obtain⟨a,vs,e,e1,e2,e3⟩:=Pp r hs.1 hx
 cases e
 exact .newL r (e2.drop n) (by rw[List.length_drop];exact Nat.le_trans (Nat.sub_le ..) e3) (Ap e1 (congrFun (if_pos ⟨Int.natCast_nonneg n,Int.ofNat_le.mpr hl,CT e3 e2.len⟩) w.H))
noncomputable def RX(Aa:List Int)(o k:LV):Tr Unit LV:=fun J L sc K J=>oE k.i? fun z=>(rd Ct.l? L o).rec (o=sv .ext->z=40->newL L ((Aa.take 40).map fun i=> .s (.int i)) sc K) fun xs=>oE (Io z) fun n=>Nat.le n BR->newL L (xs.take n) sc K
theorem Om:∀{is:List Int},Rs (FR G) (is.map fun i=> .s (.int i)) (is.map .int)
 | []=> .nil
 | _::_=> .cons .s Om
theorem Xh(Aa:List Int):AV LL AF (fun p=>cutTo Aa p.1 p.2) (fun p=>RX Aa p.1 p.2 ()):=fun p L sc K X hK hX=>Ax fun z hz=>by
 cases hx:rd Ct.l? L p.1 with
 | none=>
  intro ho hz0
  exact hK _ _ _ fun F w s r hs=>by
   obtain⟨s1,s2⟩:=s
   obtain⟨p1,p2⟩:=p
   cases EZ hz hs.2
   cases ho
   cases hz0
   have h1:=hs.1
   cases h1
   exact .newL r Om (by rw[List.length_map,List.length_take];exact Nat.le_trans (Nat.min_le_left ..) (by decide)) rfl
 | some xs=>
  refine Ax fun n hn hl=>hK _ _ _ fun F w s r hs=> ?_
  obtain⟨s1,s2⟩:=s
  cases EZ hz hs.2
  cases JX hn
  obtain⟨a,vs,e,e1,e2,e3⟩:=Pp r hs.1 hx
  cases e
  exact .newL r (e2.take n) (by rw[List.length_take];exact Nat.le_trans (Nat.min_le_right ..) e3) (Ap e1 (congrFun (if_pos ⟨Int.natCast_nonneg n,Int.ofNat_le.mpr hl,CT e3 e2.len⟩) w.H))
noncomputable def TT(op:U3)(a b:LV):Tr Unit LV:=fun J L sc K J=>a.i?.rec
 (oE (rd Ct.l? L a) fun xs=>b.i?.rec (op.casesOn (oE (rd Ct.l? L b) fun ys=>xs.length+ys.length<=5000->newL L (xs++ys) sc K) True True True True)
  fun z=>op.casesOn True True (xs.casesOn True fun x r=>r.casesOn (∀{n:Nat},z=(n:Int)->n<=1000->newL L (List.replicate n x) sc K) fun J J=>True) True True)
 fun x=>oE b.i? fun y=>op.casesOn (K (il (x+y)) L sc) (K (il (x - y)) L sc) True (0 < y->∀{z:Int},x % y=z->K (il z) L sc) (y=1024->K (il (x / y)) L sc)
theorem eF(op:U3):AV LL AF (fun p=>M5 op p.1 p.2) (fun p=>TT op p.1 p.2 ()):=fun p L sc K X hK hX=>by
 show TT op p.1 p.2 () L sc K X
 unfold TT
 cases ha:p.1.i? with
 | none=>
  refine Ax fun xs hx=> ?_
  cases hb:p.2.i? with
  | none=>
   cases op with
   | add=>
    exact Ax fun ys hy hl=>hK _ _ _ fun F w s r hs=>by
     obtain⟨s1,s2⟩:=s
     obtain⟨a,vs,e,e1,e2,e3⟩:=Pp r hs.1 hx
     cases e
     obtain⟨b,us,e,f1,f2,f3⟩:=Pp r hs.2 hy
     cases e
     exact .newL r (e2.app f2) (by rw[C1];exact hl) (Ap e1 (Ap f1 (congrFun (if_pos (by rw[e2.len,f2.len];exact Nat.le_trans hl (by decide))) w.H)))
   | _=>trivial
  | some z=>
   cases op with
   | mul=>
    rcases xs with _ | ⟨x,_ | _⟩
    .trivial
    .intro n hn hl
     exact hK _ _ _ fun F w s r hs=>by
      obtain⟨s1,s2⟩:=s
      cases EZ hb hs.2
      obtain⟨a,vs,e,e1,e2,e3⟩:=Pp r hs.1 hx
      cases e
      subst hn
      cases e2 with
      | cons x1 x2=>
       cases x2
       exact .newL r (Rs.rep x1 n) (by rw[List.length_replicate];exact Nat.le_trans hl (by decide)) (Ap e1 (congrFun (if_pos ⟨rfl,Int.natCast_nonneg n,Int.ofNat_le.mpr hl⟩) w.H))
    .trivial
   | _=>trivial
 | some x=>
  refine Ax fun y hy=> ?_
  have key:∀{i:Int},(∀H,M5 op (.int x) (.int y) H=.ok (.int i) H)->K (il i) L sc:=fun h=>AV.same hK fun F w s r hs=>by
   obtain⟨s1,s2⟩:=s
   cases EZ ha hs.1;cases EZ hy hs.2
   exact⟨_,h w.H,.s⟩
  cases op with
  | add=>exact key fun J=>rfl
  | sub=>exact key fun J=>rfl
  | mul=>trivial
  | mod=>exact fun h z e=>e▸key fun H=>congrFun (if_pos h) H
  | fdiv=>exact fun h=>key fun H=>congrFun (if_pos h) H
noncomputable def Vp(v:V):Bool:=v.casesOn true (fun J=>false) (fun J=>true) (fun J=>true) (fun J=>true) (fun J=>false) false
mutual
noncomputable def LO:Nat->TV->Bool
 | 0,_=>false
 | n+1,t=>t.casesOn Vp (fun k xs=>k.casesOn (Na n xs) (Na n xs) (fun ks=>ks.casesOn (xs.casesOn true fun J J=>false) fun J r=>r.casesOn (xs.casesOn false fun x r=>r.casesOn (LO n x) fun J J=>false) fun J J=>false) fun J J=>false) false
noncomputable def Na:Nat->List TV->Bool
 | 0,_=>false
 | n+1,xs=>xs.casesOn true fun x r=>LO n x&&Na n r
end
theorem Y5{v:V}{n:Nat}(h:Vp v=true):Kb (n+1) H v v=true:=by
 cases v with
 | none=>rfl
 | bool b=>cases h
 | int b=>exact beq_self_eq_true b
 | w b=>exact beq_self_eq_true b
 | dec b=>exact beq_self_eq_true b
 | ref a=>cases h
 | ext=>cases h
theorem Hi{n a b:Nat}{c d:Af}(e1:H[a]? =some c)(e2:H[b]? =some d)(h:Tj (JI n H) (Kb n H) c d=true):Kb (n+1) H (.ref a) (.ref b)=true:=by
 show oC H[a]? (fun c=>oC H[b]? fun d=>Tj (JI n H) (Kb n H) c d)=true
 rw[e1,e2];exact h
mutual
theorem M4(hG:∀a c,G a c->gd H a=some c):∀(n:Nat) {t:TV} {v v':V},LO n t=true->FR G t v->FR G t v'->Kb n H v v'=true
 | 0,_,_,_,h,_,_=>by cases h
 | n+1,t,v,v',h,f,f'=>by
  cases f with
  | s=>cases f';exact Y5 h
  | u=>cases h
  | @n k xs a vs g1 g2 g3=>
   cases f' with
   | @n _ _ a' vs' g1' g2' g3'=>
    have e1:=hG _ _ g1
    have e2:=hG _ _ g1'
    cases k with
    | lst=>exact Hi (DB e1) (DB e2) (Kn hG n h (Eu g3) (Eu g3'))
    | tup=>exact Hi (He e1) (He e2) (Kn hG n h (Eu g3) (Eu g3'))
    | dct ks=>
     refine Hi (DH e1) (DH e2) ?_
     rcases ks with _ | ⟨k,_ | _⟩
     .rfl
     .rcases xs with _ | ⟨x,_ | _⟩
      .cases h
      .cases g3 with
       | cons q1 q2=>cases q2;cases g3' with
        | cons q1' q2'=>
         cases q2'
         show(k==k&&Kb n H _ _)=true
         rw[beq_self_eq_true,Bool.true_and]
         exact M4 hG n h q1 q1'
      .cases h
     .cases h
    | ins c ks=>cases h
theorem Kn(hG:∀a c,G a c->gd H a=some c):∀(n:Nat) {xs:List TV} {vs vs':List V},Na n xs=true->Rs (FR G) xs vs->Rs (FR G) xs vs'->JI n H vs vs'=true
 | 0,_,_,_,h,_,_=>by cases h
 | n+1,_,_,_,h,.nil,.nil=>rfl
 | n+1,_,_,_,h,.cons a b,.cons a' b'=>by
  have h:=(PQ _ _).mp h
  exact(PQ _ _).mpr ⟨M4 hG n h.1 a a',Kn hG n h.2 b b'⟩
end
end
section
variable{α β τ σ ς:Type}{F:Fm}{L L':List LC}{w:Wd}{G:Nat->Af->Prop}{ρ:List Nat}{H:MH}
noncomputable def Yr(x y:V):Option Bool:=x.casesOn (y.casesOn (some true) (fun J=>none) (fun J=>none) (fun J=>some false) (fun J=>none) (fun J=>none) none) (fun J=>none)
 (fun i=>y.casesOn none (fun J=>none) (fun j=>some (i==j)) (fun J=>some false) (fun J=>none) (fun J=>none) none)
 (fun i=>y.casesOn (some false) (fun J=>none) (fun J=>some false) (fun j=>some (i==j)) (fun J=>none) (fun J=>none) none)
 (fun i=>y.casesOn none (fun J=>none) (fun J=>none) (fun J=>none) (fun j=>Jz (decide (i=j)) true) (fun J=>none) none) (fun J=>none) none
theorem Xq{x y:V}{b:Bool}(e:Yr x y=some b):Tb H x y=some b:=by
 cases x with
 | ref=>cases e
 | _=>cases y<;>first | exact e | cases e
theorem aK{i j:Int}(h:i≠j):Yr (.int i) (.int j)=some false:=congrArg some (beq_eq_false_iff_ne.mpr h)
theorem G0{i j:Nat}(h:i≠j):Yr (.w i) (.w j)=some false:=congrArg some (beq_eq_false_iff_ne.mpr h)
noncomputable def LC.tr?(c:LC):Option TV:=c.casesOn (fun J xs=>some (.n .lst xs)) (fun J=>none) (fun J=>none) (fun J J=>none) some
noncomputable def cH(L:List LC)(v:LV):Option TV:=v.casesOn some fun i=>(L[i]?).rec none LC.tr?
noncomputable abbrev GA(H:MH)(a:Nat)(c:Af):Prop:=gd H a=some c
theorem SB(r:Rl F L w){x:LV}{v:V}{t:TV}(h:AF (Gz F L w) w.ρ x v)(e:cH L x=some t):FR (GA w.H) t v:=by
 have l:Le (Gz F L w) (GA w.H):=fun J J h=>h.2
 cases x with
 | f t=>cases e;exact FR.mono l h
 | r i=>
  obtain⟨a,h1,rfl⟩:=h
  obtain⟨c,e1,e⟩:=ob e
  have q:=r.cells i a c h1 e1
  cases c with
  | lst b xs=>cases e;exact let⟨vs,p,q,n⟩:=q;.n (k:= .lst) p n (IJ (q.mono fun J J=>FR.mono l))
  | fz t=>cases e;exact FR.mono l q
  | _=>cases e
noncomputable def dQ(a b:LV)(L:List LC)(sc:Sc)(k:Bool->Sc->Prop):Prop:=sE sc
 (fun sc=>a.s?.rec
  (b.s?.rec (oE (rd Ct.l? L a) fun xs=>oE (rd Ct.l? L b) fun ys=>ys.casesOn (xs.casesOn (k true sc) fun J J=>k false sc) fun J J=>True) fun y=>oE (Vw y) fun J=>oE (rd Ct.x? L a) fun J=>k false sc)
  fun x=>oE b.s? fun y=>oE (Yr x y) fun t=>k t sc)
 (fun sc=>oE a.s? fun x=>oE b.s? fun y=>∀{t},Yr x y=some t->k t sc)
 (fun sc=>oE (rd Ct.l? L a) fun xs=>oE (rd Ct.l? L b) fun ys=>ys.casesOn (xs≠[]->k false sc) fun J J=>True)
 fun sc=>oE (cH L a) fun t=>oE (cH L b) fun u=>t=u->LO 64 t=true->k true sc
section
variable{a b:Nat}{xs ys:List V}
theorem Zq{k:Nat}(e:H[a]? =some (.list xs)\/H[a]? =some (.tup xs)):Tb H (.ref a) (.w k)=some false:=by
 show Jz (oC H[a]? ZM) false=_
 rcases e with e | e<;>(rw[e];rfl)
theorem Y1{c d:Af}{t:Bool}(e:H[a]? =some c)(e2:H[b]? =some d)(h:Wf c d=some t):Tb H (.ref a) (.ref b)=some t:=by
 show aR (@Option.casesOn _ (fun J=>Option Bool) H[a]? none fun c=> @Option.casesOn _ (fun J=>Option Bool) H[b]? none fun d=>Wf c d) _=_
 rw[e,e2]
 show aR (Wf c d) _=_
 rw[h];rfl
theorem Xp(e:H[a]? =some (.list []))(e2:H[b]? =some (.list [])):Tb H (.ref a) (.ref b)=some true:=Y1 e e2 rfl
theorem Vd{x:V}(e:H[a]? =some (.list (x::xs)))(e2:H[b]? =some (.list [])):Tb H (.ref a) (.ref b)=some false:=Y1 e e2 rfl
theorem UQ(h:Kb IR H (.ref a) (.ref b)=true):Tb H (.ref a) (.ref b)=some true:=by
 have hd:oC H[a]? (fun c=>oC H[b]? fun d=>Tj (JI 63 H) (Kb 63 H) c d)=true:=h
 show aR (@Option.casesOn _ (fun J=>Option Bool) H[a]? none fun c=> @Option.casesOn _ (fun J=>Option Bool) H[b]? none fun d=>Wf c d) (Jz (Kb IR H (.ref a) (.ref b)) true)=_
 rw[h]
 cases ha:H[a]? with
 | none=>rfl
 | some c=>
  cases hb:H[b]? with
  | none=>rfl
  | some d=>
   rw[ha,hb]at hd
   cases c with
   | list xs=>
    cases d with
    | list ys=>cases xs<;>cases ys<;>first | rfl | cases hd
    | _=>rfl
   | _=>rfl
end
theorem fQ{x y:LV}{sc:Sc}{k:Bool->Sc->Prop}(h:∀b sc,(∀F w x' y',Rl F L w->AF (Gz F L w) w.ρ x x'->AF (Gz F L w) w.ρ y y'->Tb w.H x' y'=some b)->k b sc):dQ x y L sc k:=by
 have k1:∀{u v t sc},x.s? =some u->y.s? =some v->Yr u v=some t->k t sc:=fun h1 h2 e=>h _ _ fun F w x' y' r q1 q2=>by
  rw[NU h1 q1,NU h2 q2];exact Xq e
 have k2:∀{xs sc},rd Ct.l? L x=some xs->rd Ct.l? L y=some []->xs≠[]->k false sc:=fun h1 h2 e=>h _ _ fun F w x' y' r q1 q2=>by
  obtain⟨a,vs,rfl,e1,e2,e3⟩:=Pp r q1 h1
  obtain⟨b,us,rfl,f1,f2,f3⟩:=Pp r q2 h2
  cases f2
  cases e2 with
  | nil=>exact absurd rfl e
  | cons=>exact Vd e1 f1
 refine HK (fun sc=> ?_) (fun sc=>Ax fun u hu=>Ax fun v hv t e=>k1 hu hv e) (fun sc=>Ax fun xs hx=>Ax fun ys hy=> ?_) fun sc=>Ax fun t ht=>Ax fun u hu e hd=> ?_
 .cases hx:x.s? with
  | some u=>exact Ax fun v hv=>Ax fun t e=>k1 hx hv e
  | none=>
   cases hy:y.s? with
   | some v=>
    exact Ax fun i hi=>Ax fun xs hxs=>h _ _ fun F w x' y' r q1 q2=>by
     obtain⟨a,vs,rfl,e1,_⟩:=cR r q1 hxs
     cases NU hy q2
     cases v with
     | w j=>exact Zq e1
     | _=>cases hi
   | none=>
    refine Ax fun xs hx=>Ax fun ys hy=> ?_
    cases ys with
    | cons=>trivial
    | nil=>
     cases xs with
     | cons=>exact k2 hx hy (by intro h;cases h)
     | nil=>
      exact h _ _ fun F w x' y' r q1 q2=>by
       obtain⟨a,vs,rfl,e1,e2,e3⟩:=Pp r q1 hx
       obtain⟨b,us,rfl,f1,f2,f3⟩:=Pp r q2 hy
       cases f2;cases e2
       exact Xp e1 f1
 .cases ys with
  | nil=>exact fun e=>k2 hx hy e
  | cons=>trivial
 .exact h _ _ fun F w x' y' r q1 q2=>by
   subst e
   have f1:=SB r q1 ht
   have f2:=SB r q2 hu
   have d:=M4 (fun J J h=>h) 64 hd f1 f2
   cases f1 with
   | @s v=>
    cases f2
    cases x' with
    | none=>rfl
    | int i=>exact congrArg some (beq_self_eq_true i)
    | w i=>exact congrArg some (beq_self_eq_true i)
    | dec i=>exact congrArg (fun b=>Jz b true) (decide_eq_true rfl)
    | _=>cases hd
   | u=>cases hd
   | n=>cases f2 with
    | n=>exact UQ d
end
noncomputable abbrev RA:Ed (List LV) (List V):=fun G ρ=>Rs (AF G ρ)
noncomputable abbrev RT:Ed TV V:=fun G J=>FR G
noncomputable abbrev TR(Aa:List Int)(d:Nat)(f:Fn)(args:List LV)(Lb:List LC)(out:Oc TV):Prop:=Sm RA RT (HR Aa d f) args Lb out
section
variable{α β τ σ ς:Type}{rel:Ed τ α}{F:Fm}{L L':List LC}{w:Wd}{G:Nat->Af->Prop}{ρ:List Nat}{H:MH}{Aa:List Int}{d:Nat}{f:Fn}
theorem Rn.pre{m:M α}{out:Oc τ}(n:Nx F L w L' w)(h:Rn F L' w m rel out):Rn F L w m rel out:=by
 cases out with
 | ok t L2=>exact let⟨a,w2,e,n2,q⟩:=h;⟨a,w2,e,n.trans n2,q⟩
 | exc t L2=>exact let⟨w2,e,n2⟩:=h;⟨w2,e,n.trans n2⟩
noncomputable def XF:Tr (List LV) LV:=fun vs L sc K J=>bE (Nat.ble vs.length 100) (oE (ZC vs L) fun p=>p.rec fun ts L=>newL L ts sc K)
theorem eH:AV RA AF (fun vs=>if vs.length<=BR then alloc (.list vs)else bad) XF:=fun vs L sc K X hK hX=>Hd fun hl=>Ax fun p hp=>hK _ _ _ fun F w s r hs=>by
 obtain⟨n,h⟩:=Ku r hs hp
 have hl:=BI hl
 exact .pre n (.newL n.r h (by rw[<-h.len,hs.len];exact Nat.le_trans hl (by decide)) (congrFun (if_pos (by rw[hs.len];exact Nat.le_trans hl (by decide))) w.H))
noncomputable def XM:Tr (List LV) LV:=fun vs L sc K J=>bE (Nat.ble vs.length 100) (oE (ZC vs L) fun p=>p.rec fun ts L=>K (.f (.n .tup ts)) L sc)
theorem Rn.done{m:M V}{k:Nd}{xs:List TV}{vs:List V}(r:Rl F L w)(hd:dm (k.cell vs)=k.cell vs)(h:Rs (FR (Gz F L w)) xs vs)(hl:xs.length<=k.bd)(e:m w.H=.ok (.ref w.H.length) (w.H++[k.cell vs])):Rn F L w m AF (.ok (.f (.n k xs)) L):=
 have n:Nx F L w L ⟨w.ρ,w.H++[k.cell vs]⟩:=Ic r (by rw[C1];exact Nat.le_add_right _ _) fun J h=>IW h
 ⟨_,⟨w.ρ,w.H++[k.cell vs]⟩,e,n,.n ⟨fun s=>s.elim (fun s=>absurd (r.sF _ s) (Nat.not_lt.mpr r.le)) fun⟨i,c,e,_⟩=>absurd (r.lt i _ e) (Nat.lt_irrefl _),SJ.trans (congrArg some hd)⟩ hl (IJ (h.mono fun J J=>FR.mono n.l))⟩
theorem cO:AV RA AF (fun vs=>if vs.length<=BR then alloc (.tup vs)else bad) XM:=fun vs L sc K X hK hX=>Hd fun hl=>Ax fun p hp=>hK _ _ _ fun F w s r hs=>by
 obtain⟨n,h⟩:=Ku r hs hp
 have hl:=BI hl
 exact .pre n (.done (k:= .tup) n.r rfl h (by rw[<-h.len,hs.len];exact Nat.le_trans hl (by decide)) (congrFun (if_pos (by rw[hs.len];exact Nat.le_trans hl (by decide))) w.H))
theorem TC(r:Rl F L w):Rl ⟨Sx F L w,w.H⟩ [] ⟨[],w.H⟩:=
 {
  tab:=r.tab,t0:=fun i h=>(by cases i<;>cases h),nd:=fun i j a h=>(by cases i<;>cases h),len:=rfl,lt:=fun i a h=>(by cases i<;>cases h)
  sF:=fun a s=>s.elim (fun s=>Nat.lt_of_lt_of_le (r.sF a s) r.le) fun⟨i,c,e,_⟩=>r.lt i a e
  le:=Nat.le_refl _,old:=fun a J J=>rfl,own:=fun i a c h=>(by cases i<;>cases h),cells:=fun i a c h=>(by cases i<;>cases h)}
theorem Pr{L':List LC}(h:∀(i:Nat) (c:LC),L'[i]? =some c->c.mut=true->∃c':LC,L[i]? =some c'/\c'.mut=true){Lb:List LC}{wb:Wd}:Le (Gz ⟨Sx F L w,w.H⟩ Lb wb) (Gz F L' ⟨w.ρ,wb.H⟩):=fun a c h1=>
 ⟨fun s=>h1.1 (.inl (s.imp id fun⟨i,c,e1,e2,e3⟩=>let⟨c',q1,q2⟩:=h i c e2 e3;⟨i,c',e1,q1,q2⟩)),h1.2⟩
theorem Zl:Le (Gz F L w) (Gz ⟨Sx F L w,w.H⟩ [] ⟨[],w.H⟩):=fun a c h=>⟨fun s=>s.elim h.1 fun⟨i,c,e,_⟩=>(by cases i<;>cases e),h.2⟩
theorem aW{xs:List TV}{vs:List V}(h:Rs (FR G) xs vs):Rs (AF G ρ) (xs.map .f) vs:=by
 induction h with
 | nil=>exact .nil
 | cons x _ ih=>exact .cons x ih
theorem OZ{w':Wd}{F':Fm}(n:Rl F' [] w')(i a:Nat):¬w'.ρ[i]? =some a:=by
 have:=n.len
 cases h:w'.ρ with
 | nil=>intro e;cases i<;>cases e
 | cons=>rw[h]at this;cases this
noncomputable def Ra(Aa:List Int)(d:Nat)(f:Fn):Tr (List LV) LV:=fun vs L sc K X=>oE (ZC vs L) fun p=>p.rec fun ts L=>sE sc (fun sc=>∀{t},TR Aa d f (ts.map .f) [] (.ok t [])->K (.f t) L sc) (fun sc=>∀{m},TR Aa d f (ts.map .f) [] (.exc m [])->X m L sc) (fun J=>True) fun J=>True
theorem Yi:AV RA AF (HR Aa d f) (Ra Aa d f):=fun vs L sc K X hK hX=>Ax fun p hp=>by
 have key:∀{out:Oc TV} {F:Fm} {w:Wd} {s:List V},Rl F L w->RA (Gz F L w) w.ρ vs s->TR Aa d f (p.1.map .f) [] out->Nx F L w p.2 w/\Rn ⟨Sx F p.2 w,w.H⟩ [] ⟨[],w.H⟩ (HR Aa d f s) RT out:=fun r hs h=>
  let⟨n,q⟩:=Ku r hs hp
  ⟨n,h _ _ _ (TC n.r) (aW (q.mono fun J J=>FR.mono Zl))⟩
 have kp:∀{F:Fm} {w w':Wd},Rl F p.2 w->Rl ⟨Sx F p.2 w,w.H⟩ [] w'->Nx F p.2 w p.2 ⟨w.ρ,w'.H⟩:=fun r n=>Ic r n.le fun b hb=>n.old b hb fun i=>OZ n i b
 refine HK (fun sc t h=>hK _ _ _ fun F w s r hs=> ?_) (fun sc m h=>hX _ _ _ fun F w s r hs=> ?_) (fun J=>trivial) fun J=>trivial
 .obtain ⟨n,v,w',e,n2,q⟩:=key r hs h
  exact⟨v,⟨w.ρ,w'.H⟩,e,n.trans (kp n.r n2.r),FR.mono (Pr fun i c e1 e2=>⟨c,e1,e2⟩) q⟩
 .obtain ⟨n,w',e,n2⟩:=key r hs h
  exact⟨⟨w.ρ,w'.H⟩,e,n.trans (kp n.r n2.r)⟩
theorem Uf(r:Rl F L w){i a:Nat}{b:Bool}{g:List TV}(hi:w.ρ[i]? =some a)(hm:L[i]? =some (.lst b g)):Rl ⟨Sx F L w,w.H⟩ [.lst true g] ⟨[a],w.H⟩/\Le (Gz F L w) (Gz ⟨Sx F L w,w.H⟩ [.lst true g] ⟨[a],w.H⟩):=
 have one:∀{α:Type} {x y:α} {i:Nat},[x][i]? =some y->i=0/\y=x:=fun {α x y i} h=>by cases i<;>cases h;exact⟨rfl,rfl⟩
 have l:Le (Gz F L w) (Gz ⟨Sx F L w,w.H⟩ [.lst true g] ⟨[a],w.H⟩):=fun x c h=>⟨fun s=>s.elim h.1 fun⟨j,c',e,_⟩=>h.1 (.inr ⟨i,_,(one e).2▸hi,hm,rfl⟩),h.2⟩
 ⟨{
   tab:=r.tab,t0:=fun j h=>r.t0 i ((one h).2▸hi),nd:=fun i j x h h'=>(one h).1.trans (one h').1.symm,len:=rfl,lt:=fun j x h=>(one h).2▸r.lt i a hi
   sF:=fun a s=>s.elim (fun s=>Nat.lt_of_lt_of_le (r.sF a s) r.le) fun⟨i,c,e,_⟩=>r.lt i a e
   le:=Nat.le_refl _,old:=fun a J J=>rfl
   own:=fun j x c h e q=>(by obtain⟨rfl,rfl⟩:=one e;cases q)
   cells:=fun j x c h e=>(by
    obtain⟨rfl,rfl⟩:=one e
    obtain⟨_,rfl⟩:=one h
    exact let⟨vs,q,z,n⟩:=r.cells i x _ hi hm;⟨vs,q,z.mono fun J J=>FR.mono l,n⟩)},l⟩
noncomputable def fF(vs:List LV):Nat->List LC->Option (List LV×List LC):=vs.rec (fun J L=>some ([],L)) fun v r ih j L=>j.casesOn ((ZC r L).rec none fun q=>q.rec fun ts L=>some (.r 0::ts.map .f,L)) fun j=>(fz L v).rec none fun q=>q.rec fun t L=>(ih j L).rec none fun s=>s.rec fun ts L=>some (.f t::ts,L)
theorem X4{vs:List LV}:∀{j:Nat} {L:List LC} {q:List V} {p:List LV×List LC} {i a:Nat},Rl F L w->Rs (AF (Gz F L w) w.ρ) vs q->vs[j]? =some (.r i)->w.ρ[i]? =some a->fF vs j L=some p->Nx F L w p.2 w/\Rs (AF (Gz F p.2 w) [a]) p.1 q:=by
 induction vs with
 | nil=>intro j L q p i a r h e;cases j<;>cases e
 | cons v vs ih=>
  intro j L q p i a r h e ha e2
  cases h with
  | @cons _ u _ us x y=>
   cases j with
   | zero=>
    cases e
    obtain⟨s,e3,e2⟩:=ob e2
    cases e2
    obtain⟨n,z⟩:=Ku r y e3
    obtain⟨a',q1,q2⟩:=x
    rw[ha]at q1
    cases q1
    exact⟨n,.cons ⟨a,rfl,q2⟩ (aW z)⟩
   | succ j=>
    obtain⟨s,e3,e2⟩:=ob e2
    obtain⟨s2,e4,e2⟩:=ob e2
    cases e2
    obtain⟨n,z⟩:=GQ r x e3
    obtain⟨n2,z2⟩:=ih n.r (y.mono fun J J=>AF.mono n.l n.p) e ha e4
    exact⟨n.trans n2,.cons (FR.mono n2.l z) z2⟩
noncomputable def R1(Aa:List Int)(d:Nat)(f:Fn)(j:Nat):Tr (List LV) LV:=fun vs L sc K X=>oE (vs[j]?) fun v=>oE v.r? fun i=>oE (fF vs j L) fun p=>p.rec fun as L=>oE (L[i]?) fun c=>oE c.l? fun q=>q.rec fun b xs=>
 sE sc (fun sc=>∀{t g},TR Aa d f as [.lst true xs] (.ok t [.lst true g])->K (.f t) (L.set i (.lst b g)) sc) (fun sc=>∀{m g},TR Aa d f as [.lst true xs] (.exc m [.lst true g])->X m (L.set i (.lst b g)) sc) (fun J=>True) fun J=>True
theorem Yc{j:Nat}:AV RA AF (HR Aa d f) (R1 Aa d f j):=fun vs L sc K X hK hX=>Ax fun v hv=>Ax fun i hi=>Ax fun p hp=>Ax fun c hc=>Ax fun q hq=>by
 have key:∀{out:Oc TV} {F:Fm} {w:Wd} {s:List V},Rl F L w->RA (Gz F L w) w.ρ vs s->TR Aa d f p.1 [.lst true q.2] out->Nx F L w p.2 w/\∃a,w.ρ[i]? =some a/\Rn ⟨Sx F p.2 w,w.H⟩ [.lst true q.2] ⟨[a],w.H⟩ (HR Aa d f s) RT out:=fun {out F w s} r hs h=>by
  obtain⟨u,_,hu⟩:=hs.get hv
  obtain⟨a,ea,_⟩:=RI hi hu
  obtain⟨n,z⟩:=X4 r hs (hv.trans (congrArg some (by cases v with | f t=>cases hi | r k=>cases hi;rfl))) ea hp
  obtain⟨r2,l2⟩:=Uf n.r ea (hc.trans (congrArg some (UD hq)))
  exact⟨n,a,ea,h _ _ _ r2 (z.mono fun x v h=>AF.mono l2 (List.prefix_refl _) h)⟩
 have kp:∀{F:Fm} {w w':Wd} {a:Nat} {g:List TV},Rl F p.2 w->w.ρ[i]? =some a->Nx ⟨Sx F p.2 w,w.H⟩ [.lst true q.2] ⟨[a],w.H⟩ [.lst true g] w'->Nx F p.2 w (p.2.set i (.lst q.1 g)) ⟨w.ρ,w'.H⟩/\Le (Gz ⟨Sx F p.2 w,w.H⟩ [.lst true g] w') (Gz F (p.2.set i (.lst q.1 g)) ⟨w.ρ,w'.H⟩):=fun {F w w' a g} r ha n=>by
  have hρ:w'.ρ=[a]:=(n.p.eq_of_length n.r.len.symm).symm
  have hm:=hc.trans (congrArg some (UD hq))
  have l:Le (Gz ⟨Sx F p.2 w,w.H⟩ [.lst true g] w') (Gz F (p.2.set i (.lst q.1 g)) ⟨w.ρ,w'.H⟩):=Pr fun k c e1 e2=>by
   rw[List.getElem?_set]at e1
   by_cases h:i=k
   .subst h;exact⟨_,hm,rfl⟩
   .rw [if_neg h]at e1;exact⟨c,e1,e2⟩
  refine⟨I1 r ha hm rfl rfl n.r.le (fun b hb JK=>n.r.old b hb fun k e=> ?_) fun J=> ?_,l⟩
  .rw [hρ]at e
   cases k<;>cases e
   exact JK rfl
  .exact let⟨vs,e,z,nn⟩:=n.r.cells 0 a _ (by rw[hρ];rfl) rfl;⟨vs,e,z.mono fun J J=>FR.mono l,nn⟩
 refine HK (fun sc t g h=>hK _ _ _ fun F w s r hs=> ?_) (fun sc m g h=>hX _ _ _ fun F w s r hs=> ?_) (fun J=>trivial) fun J=>trivial
 .obtain ⟨n,a,ha,v,w',e,n2,q⟩:=key r hs h
  obtain⟨n3,l3⟩:=kp n.r ha n2
  exact⟨v,⟨w.ρ,w'.H⟩,e,n.trans n3,FR.mono l3 q⟩
 .obtain ⟨n,a,ha,w',e,n2⟩:=key r hs h
  exact⟨⟨w.ρ,w'.H⟩,e,n.trans (kp n.r ha n2).1⟩
end
noncomputable abbrev AA:Type:=List (Option LV)
inductive OV{α β:Type}(R:α->β->Prop):Option α->Option β->Prop
 | no {y:Option β}:OV R none y
 | so {a:α} {b:β}:R a b->OV R (some a) (some b)
theorem OV.mono{α β:Type}{R R':α->β->Prop}(f:∀a b,R a b->R' a b){x:Option α}{y:Option β}(h:OV R x y):OV R' x y:=by
 cases h with
 | no=>exact .no
 | so q=>exact .so (f _ _ q)
noncomputable abbrev RV:Ed AA Mine.Env:=fun G ρ=>Rs (OV (AF G ρ))
theorem OR.mono{α β:Type}{R R':α->β->Prop}(f:∀a b,R a b->R' a b){x:Option α}{y:Option β}(h:OR R x y):OR R' x y:=by
 cases h with
 | no=>exact .no
 | so q=>exact .so (f _ _ q)
theorem AI:FL RV:=fun l p J J h=>h.mono fun J J q=>q.mono fun J J=>AF.mono l p
section
variable{α β τ σ ς:Type}{R:Ed σ ς}{rel:Ed τ α}{F:Fm}{L L':List LC}{w:Wd}{G:Nat->Af->Prop}{ρ:List Nat}{H:MH}{Aa:List Int}{d:Nat}{f:Fn}
noncomputable def XR(i:Nat):Tr AA LV:=fun env L sc K J=>oE ((env[i]?).rec none id) fun v=>K v L sc
theorem aJ(i:Nat):AV RV AF (fun env=>Cp (env[i]?).join) (XR i):=fun env L sc K X hK hX=>Ax fun v hv=>AV.same hK fun F w s r hs=>by
 obtain⟨o,e1,e2⟩:=ob hv
 obtain⟨o',e3,q⟩:=hs.get e1
 cases e2
 cases q with
 | so q=>exact⟨_,Bn (by rw[e3];rfl),q⟩
theorem Xn(v:V):AV R AF (fun J=>ret v) (fun J L sc K J=>K (sv v) L sc):=fun env L sc K X hK hX=>AV.same hK fun F w s r hs=>⟨v,rfl,.s⟩
theorem Wk:AV R AF (fun J=>alloc (.dictW [])) (fun J L sc K J=>K (.r L.length) (L++[.dct []]) sc):=fun env L sc K X hK hX=>hK _ _ _ fun F w s r hs=> .new r rfl rfl fun J J J J=>⟨[],rfl,.nil,by decide⟩
theorem XY:AV R AF (fun J=>alloc (.dictI [])) (fun J L sc K J=>K (.r L.length) (L++[.dci []]) sc):=fun env L sc K X hK hX=>hK _ _ _ fun F w s r hs=> .new r rfl rfl fun J J J J=>⟨[],rfl,.nil,by decide⟩
noncomputable def LC.d?(c:LC):Option (List (Nat×TV)):=c.casesOn (fun J J=>none) some (fun J=>none) (fun J J=>none) fun J=>none
noncomputable def LC.e?(c:LC):Option (List (Int×TV)):=c.casesOn (fun J J=>none) (fun J=>none) some (fun J J=>none) fun J=>none
theorem ZN{c:LC}{p:List (Nat×TV)}(e:c.d? =some p):c=.dct p:=by
 cases c with
 | dct b=>cases e;rfl
 | _=>cases e
theorem eT{c:LC}{p:List (Int×TV)}(e:c.e? =some p):c=.dci p:=by
 cases c with
 | dci b=>cases e;rfl
 | _=>cases e
theorem cX{c:LC}{p:Dx×List (Nat×LV)}(e:c.i? =some p):c=.ins p.1 p.2:=by
 cases c with
 | ins b=>cases e;rfl
 | _=>cases e
noncomputable def Wb(k:Nat)(o v:LV):Tr Unit LV:=fun J L sc K J=>X9 L v fun t L=>oE o.r? fun i=>oE (L[i]?) fun c=>oE c.d? fun kvs=>kvs.casesOn (K o (L.set i (.dct [(k,t)])) sc) fun J J=>True
theorem aA(k:Nat):AV LL AF (fun p=>bnd (stays p.1 (.dictW [])) fun J=>bnd (D6 p.1 (.dictW [(k,p.2)])) fun J=>ret p.1) (fun p=>Wb k p.1 p.2 ()):=fun p L sc K X hK hX=>Ax fun q hq=>Ax fun i hi=>Ax fun c hc=>Ax fun kvs hk=>by
 cases kvs with
 | cons=>trivial
 | nil=>
  exact hK _ _ _ fun F w s r hs=>by
   obtain⟨s1,s2⟩:=s
   obtain⟨n,z⟩:=GQ r hs.2 hq
   obtain⟨a,ea,e⟩:=RI hi hs.1
   cases e
   have hm:=hc.trans (congrArg some (ZN hk))
   obtain⟨u,e1,e2,_⟩:=n.r.cells i a _ ea hm
   cases e2
   have nx:=R7 (ys:=[(k,q.1)]) (us:=[(k,s2)]) n.r ea hm (.cons ⟨rfl,z⟩ .nil) (BI rfl)
   exact⟨.ref a,⟨w.ρ,w.H.set a (.dictW [(k,s2)])⟩,(Av (Ap (DH e1) (congrFun (if_pos rfl) w.H))).trans rfl,n.trans nx,AF.mono (n.trans nx).l (List.prefix_refl _) hs.1⟩
theorem K2{args:List V}(h:args.length=(prog f).params)(hd:(prog f).dflt=[]):
  HR Aa (d+1) f args=bnd (Am (CS Aa d) (prog f).body (args.map some++List.replicate ((prog f).vars - (prog f).params) none)) fun p=>ret (p.2.getD .none):=by
 unfold HR
 rw[DY,hd]
 simp[h]
theorem D8{C:Ja Fn}{k:Dx}{fs:List (Nat×V)}{a:Nat}{n:Nat}{e:ME Fn}{v:V}{env:Mine.Env}{r:List (MS Fn)}{out:Mine.R (Mine.Env×Option V)}(lt:a < H.length)(h0:env[0]? =some (some (.ref a)))(he:∀H,Ac C e env H=.ok v H)(hl:fs.length < 100)
  (h:Am C r env (H.set a (.inst k (EX n v fs)))=out):Am C (.setA (.O 0) n e::r) env (H.set a (.inst k fs))=out:=by
 have e1:E3 C (.setA (.O 0) n e) env (H.set a (.inst k fs))=.ok (env,none) (H.set a (.inst k (EX n v fs))):=by
  refine(Av (he _)).trans ((Av (Bn (x:= .ref a) (by rw[h0];rfl))).trans ?_)
  refine(Av (a:=()) (H':=(H.set a (.inst k fs)).set a (.inst k (EX n v fs))) (Ap (Gq lt) (congrFun (if_pos hl) _))).trans ?_
  rw[List.set_set];rfl
 exact(Av e1).trans h
theorem IV{a:Nat}{c:Af}(h:H[a]? =some c):H.set a c=H:=by
 apply List.ext_getElem?
 intro i
 by_cases e:a=i
 .subst e;rw[Gq (Ew.mp h).1,h]
 .rw [Il e]
theorem VW{C:Ja Fn}{a:Nat}{k x y:V}(h:H[a]? =some (.inst .vector [])):Am C Dj.body [some (.ref a),some k,some x,some y] H=.ok ([some (.ref a),some k,some x,some y],none) (H.set a (.inst .vector [(0,k),(1,x),(2,y),(3,.bool false),(4,.bool false)])):=by
 have lt:=(Ew.mp h).1
 conv=>lhs;rw[<-IV h]
 exact D8 lt rfl (fun J=>rfl) (BI rfl) (D8 lt rfl (fun J=>rfl) (BI rfl) (D8 lt rfl (fun J=>rfl) (BI rfl) (D8 lt rfl (fun J=>rfl) (BI rfl) (D8 lt rfl (fun J=>rfl) (BI rfl) rfl))))
theorem WT{C:Ja Fn}{a:Nat}(h:H[a]? =some (.inst .null [])):Am C Gy.body [some (.ref a)] H=.ok ([some (.ref a)],none) (H.set a (.inst .null [(0,.w 6),(2,.none)])):=by
 have lt:=(Ew.mp h).1
 conv=>lhs;rw[<-IV h]
 exact D8 lt rfl (fun J=>rfl) (BI rfl) (D8 lt rfl (fun J=>rfl) (BI rfl) rfl)
noncomputable def gU(c:Dx)(vs:List LV):Option (List (Nat×LV)):=c.casesOn (vs.casesOn (some [(0,sv (.w 6)),(2,sv .none)]) fun J J=>none)
 (vs.casesOn none fun k r=>r.casesOn none fun x r=>r.casesOn (some [(0,k),(1,x),(2,sv .none),(4,bl false)]) fun y r=>r.casesOn (some [(0,k),(1,x),(2,y),(4,bl false)]) fun J J=>none)
noncomputable def eP(d:Nat)(c:Dx):Tr (List LV) LV:=fun vs L sc K J=>d.casesOn True fun J=>oE (gU c vs) fun fs=>K (.r L.length) (L++[.ins c fs]) sc
theorem N8{m:List V->M V}{s:List V}{c:Dx}{fs:List (Nat×LV)}{q:List (Nat×V)}(r:Rl F L w)(e:m s w.H=.ok (.ref w.H.length) (w.H++[Af.inst c q]))(hq:dm (.inst c q)=.inst c (E8 q))(h:Rs (KR (AF (Gz F L w) w.ρ)) fs (E8 q))(hl:fs.length<=90):Rn F L w (m s) AF (.ok (.r L.length) (L++[.ins c fs])):=
 .new r rfl e fun J J l p=>⟨_,congrArg some hq,h.mono (KR.mono fun J J=>AF.mono l p),hl⟩
noncomputable abbrev aU(Aa:List Int)(d:Nat)(c:Dx)(vs:List V):M V:=bnd (alloc (Af.inst c [])) fun o=>bnd (still (HR Aa d (Mine.initOf c) (o::vs))) fun r=>if r=.none then ret o else bad
theorem Nl{c:Dx}{vs:List V}{q:List (Nat×V)}(e:HR Aa d (Mine.initOf c) (.ref H.length::vs) (H++[Af.inst c []])=.ok .none ((H++[Af.inst c []]).set H.length (.inst c q))):aU Aa d c vs H=.ok (.ref H.length) (H++[Af.inst c q]):=by
 have e2:still (HR Aa d (Mine.initOf c) (.ref H.length::vs)) (H++[Af.inst c []])=.ok .none ((H++[Af.inst c []]).set H.length (.inst c q)):=by
  unfold still;rw[e]
 refine(Av (m:=alloc (Af.inst c [])) (f:=fun o=>bnd (still (HR Aa d (Mine.initOf c) (o::vs))) fun r=>if r=.none then ret o else bad) rfl).trans ((Av e2).trans ?_)
 rw[List.set_append_right _ _ (Nat.le_refl _),Nat.sub_self];rfl
theorem hV(c:Dx):AV RA AF (aU Aa d c) (eP d c):=fun vs L sc K X hK hX=>by
 cases d with
 | zero=>trivial
 | succ d=>
  refine Ax fun fs hf=>hK _ _ _ fun F w s r hs=> ?_
  have hnew:∀{c:Dx},(w.H++[Af.inst c []])[w.H.length]? =some (.inst c []):=by simp
  cases c with
  | null=>
   cases hs with
   | nil=>
    cases hf
    exact N8 (m:=aU Aa (d+1) .null) (q:=[(0,.w 6),(2,.none)]) r (Nl ((congrFun (K2 (f:= .Cm) rfl rfl) _).trans ((Av (WT hnew)).trans rfl))) rfl (.cons ⟨rfl,.s⟩ (.cons ⟨rfl,.s⟩ .nil)) (BI rfl)
   | cons=>cases hf
  | vector=>
   cases hs with
   | nil=>cases hf
   | cons x hs=>cases hs with
    | nil=>cases hf
    | cons y hs=>cases hs with
     | nil=>
      cases hf
      refine N8 (m:=aU Aa (d+1) .vector) r (Nl (q:=[(0,_),(1,_),(2,.none),(3,.bool false),(4,.bool false)]) ?_) rfl (.cons ⟨rfl,x⟩ (.cons ⟨rfl,y⟩ (.cons ⟨rfl,.s⟩ (.cons ⟨rfl,.s⟩ .nil)))) (BI rfl)
      exact(congrFun (show HR Aa (d+1) .An _=bnd (Am (CS Aa d) Dj.body _) fun p=>ret (p.2.getD .none)from rfl) _).trans ((Av (VW hnew)).trans rfl)
     | cons z hs=>cases hs with
      | nil=>
       cases hf
       refine N8 (m:=aU Aa (d+1) .vector) r (Nl (q:=[(0,_),(1,_),(2,_),(3,.bool false),(4,.bool false)]) ?_) rfl (.cons ⟨rfl,x⟩ (.cons ⟨rfl,y⟩ (.cons ⟨rfl,z⟩ (.cons ⟨rfl,.s⟩ .nil)))) (BI rfl)
       exact(congrFun (show HR Aa (d+1) .An _=bnd (Am (CS Aa d) Dj.body _) fun p=>ret (p.2.getD .none)from rfl) _).trans ((Av (VW hnew)).trans rfl)
      | cons=>cases hf
end
noncomputable abbrev RO:Ed (Option TV) (Option V):=fun G J=>OR (FR G)
noncomputable abbrev HG:Ed (AA×Option LV) (Mine.Env×Option V):=P2 RV fun G ρ=>OR (AF G ρ)
inductive Fg(m:Mine.Env->M (Option V))(env:AA):List TV->List LC->List TV->List LC->Prop
 | nil {L:List LC}:Fg m env [] L [] L
 | cons {x:TV} {xs r:List TV} {o:Option TV} {L L1 L':List LC}:Sm RV RO m (env++[some (.f x)]) L (.ok o L1)->Fg m env xs L1 r L'->Fg m env (x::xs) L (o.toList++r) L'
inductive DL(B:Mine.Env->M (Mine.Env×Option V))(i:Nat):List TV->AA->List LC->Oc (AA×Option LV)->Prop
 | nil {env:AA} {L:List LC}:DL B i [] env L (.ok (env,none) L)
 | next {x:TV} {xs:List TV} {env env1:AA} {L L1:List LC} {out:Oc (AA×Option LV)}:Sm RV HG B (env.set i (some (.f x))) L (.ok (env1,none) L1)->DL B i xs env1 L1 out->DL B i (x::xs) env L out
 | ret {x:TV} {xs:List TV} {env env1:AA} {v:LV} {L L1:List LC}:Sm RV HG B (env.set i (some (.f x))) L (.ok (env1,some v) L1)->DL B i (x::xs) env L (.ok (env1,some v) L1)
 | exc {x:TV} {xs:List TV} {env:AA} {m:Nat} {L L1:List LC}:Sm RV HG B (env.set i (some (.f x))) L (.exc m L1)->DL B i (x::xs) env L (.exc m L1)
section
variable{α β τ σ ς:Type}{R:Ed σ ς}{rel:Ed τ α}{F:Fm}{L L':List LC}{w:Wd}{G:Nat->Af->Prop}{ρ:List Nat}{H:MH}{Aa:List Int}{d:Nat}{f:Fn}
theorem Jc{m:M α}{a:α}{H':MH}(h:m H=.ok a H'):still m H=.ok a H':=by unfold still;rw[h]
theorem Rn.still{m:M α}{t:τ}(h:Rn F L w m rel (.ok t L')):Rn F L w (Mine.still m) rel (.ok t L'):=let⟨a,w',e,q⟩:=h;⟨a,w',Jc e,q⟩
noncomputable abbrev LR(F:Fm)(L:List LC)(w:Wd)(post:M Unit):Prop:=∀H',(∀a c,Gz F L w a c->gd H' a=some c)->post H'=.ok () H'
theorem LR.mono{post:M Unit}{w':Wd}(h:LR F L w post)(n:Nx F L w L' w'):LR F L' w' post:=fun H' q=>h H' fun a c g=>q a c (n.l a c g)
theorem LR.now{post:M Unit}{w':Wd}(h:LR F L w post)(n:Nx F L w L' w'):post w'.H=.ok () w'.H:=h w'.H fun a c g=>(n.l a c g).2
theorem Sa{m:Mine.Env->M (Option V)}{env:AA}{post:M Unit}{xs ys:List TV}(h:Fg m env xs L ys L'):∀{w:Wd} {vs:List V} {Ai:Mine.Env},Rl F L w->RV (Gz F L w) w.ρ env Ai->Rs (FR (Gz F L w)) xs vs->LR F L w post->Rn F L w (Bv (fun x=>m (Ai++[some x])) post vs) (fun G J=>Rs (FR G)) (.ok ys L'):=by
 induction h with
 | nil=>intro w vs Ai r _ hx _;cases hx;exact .same r rfl .nil
 | @cons x xs ys o L L1 L2 h1 _ ih=>
  intro w vs Ai r he hx hp
  cases hx with
  | @cons _ v _ vs hv hx=>
   obtain⟨u,w1,e1,n,q⟩:=h1 F w (Ai++[some v]) r (he.app (.cons (.so hv) .nil))
   obtain⟨us,w2,e2,n2,q2⟩:=ih n.r (AI n.l n.p he) (hx.mono fun J J=>FR.mono n.l) (hp.mono n)
   refine⟨u.toList++us,w2,?_,n.trans n2,?_⟩
   .exact (Av e1).trans ((Av (hp.now n)).trans ((Av e2).trans rfl))
   .cases q with
    | no=>exact q2
    | so q=>exact .cons (FR.mono n2.l q) q2
theorem OX{m:Mine.Env->M (Option V)}{env:AA}{xs ys:List TV}(h:Fg m env xs L ys L'):ys.length<=xs.length:=by
 induction h with
 | nil=>exact Nat.le_refl _
 | @cons x xs ys o _ _ _ _ _ ih=>cases o with
  | none=>exact Nat.le_succ_of_le ih
  | some o=>exact Nat.succ_le_succ ih
theorem Nt{B:Mine.Env->M (Mine.Env×Option V)}{i:Nat}{post:M Unit}{xs:List TV}{env:AA}{out:Oc (AA×Option LV)}(h:DL B i xs env L out):∀{w:Wd} {vs:List V} {Ai:Mine.Env},Rl F L w->RV (Gz F L w) w.ρ env Ai->Rs (FR (Gz F L w)) xs vs->LR F L w post->Rn F L w (EW (fun x env=>B (env.set i (some x))) post vs Ai) HG out:=by
 induction h with
 | nil=>intro w vs Ai r he hx _;cases hx;exact .same r rfl ⟨he,.no⟩
 | next h1 _ ih=>
  intro w vs Ai r he hx hp
  cases hx with
  | cons hv hx=>
   refine(h1 F w _ r (he.set (OV.so (a:=LV.f _) hv) i)).bnd fun w1 p n q=> ?_
   obtain⟨e1,o⟩:=p
   cases q.2
   exact Rn.bnd (rel:=RU) (t:=()) (.same n.r (hp.now n) trivial) fun w2 J n2 J=>ih n2.r (AI n2.l n2.p q.1) (hx.mono fun J J h=>FR.mono n2.l (FR.mono n.l h)) ((hp.mono n).mono n2)
 | ret h1=>
  intro w vs Ai r he hx hp
  cases hx with
  | cons hv hx=>
   refine(h1 F w _ r (he.set (OV.so (a:=LV.f _) hv) i)).bnd fun w1 p n q=> ?_
   obtain⟨e1,o⟩:=p
   cases hq:o with
   | none=>rw[hq]at q;cases q.2
   | some v=>exact .same n.r rfl (hq▸q)
 | exc h1=>
  intro w vs Ai r he hx hp
  cases hx with
  | cons hv hx=>exact(h1 F w _ r (he.set (OV.so (a:=LV.f _) hv) i)).exc
noncomputable def T7(t:TV):Option (List TV):=t.casesOn (fun J=>none) (fun k xs=>k.casesOn (some xs) none (fun J=>none) fun J J=>none) none
theorem Z6{t:TV}{xs:List TV}(e:T7 t=some xs):t=.n .lst xs:=by
 cases t with
 | s=>cases e
 | u=>cases e
 | n k ys=>cases k with
  | lst=>cases e;rfl
  | _=>cases e
theorem Jm{a:Nat}{c:Af}(h:H[a]? =some c):stays (.ref a) c H=.ok () H:=Ap h (congrFun (if_pos rfl) H)
theorem On{a:Nat}{xs:List V}{n:Nat}(h:H[a]? =some (.list xs))(hl:n<=5000)(e:xs.length=n):Hz (.ref a) H=.ok xs H:=Ap h (congrFun (if_pos (CT hl e)) H)
theorem over{l:LV}{v:V}{p:TV×List LC}{xs:List TV}(r:Rl F L w)(h:AF (Gz F L w) w.ρ l v)(hp:fz L l=some p)(hx:T7 p.1=some xs):Nx F L w p.2 w/\∃a vs,v=.ref a/\w.H[a]? =some (.list vs)/\Rs (FR (Gz F p.2 w)) xs vs/\xs.length<=5000/\LR F p.2 w (stays (.ref a) (.list vs)):=by
 obtain⟨n,q⟩:=GQ r h hp
 rw[Z6 hx]at q
 cases q with
 | n g1 g2 g3=>exact⟨n,_,_,rfl,DB g1.2,Eu g3,g2,fun H' hh=>Jm (DB (hh _ _ g1))⟩
noncomputable def Wu(m:Mine.Env->M (Option V))(env:AA)(l:LV):Tr Unit LV:=fun J L sc K J=>X9 L l fun t L=>oE (T7 t) fun xs=>∀{ys L'},Fg m env xs L ys L'->newL L' ys sc K
theorem Z5{m:Mine.Env->M (Option V)}:AV (P2 RV AF) AF (fun p=>bnd (B4 p.2) fun c=>bnd (Hz p.2) fun xs=>bnd (still (Bv (fun x=>m (p.1++[some x])) (stays p.2 c) xs)) fun ys=>if ys.length<=BR then alloc (.list ys)else bad) fun p=>Wu m p.1 p.2 ():=fun p L sc K X hK hX=>Ax fun q hq=>Ax fun xs hx ys L' ht=>hK _ _ _ fun F w s r hs=>by
 obtain⟨s1,s2⟩:=s
 obtain⟨n,a,vs,e,e1,e2,e3,st⟩:=over r hs.2 hq hx
 cases e
 obtain⟨us,w2,e4,n2,q2⟩:=(Sa ht n.r (AI n.l n.p hs.1) e2 st).still
 have hl:=Nat.le_trans (OX ht) e3
 obtain⟨b,w3,e5,n3,q3⟩:=Rn.newL (m:=if us.length<=BR then alloc (.list us)else bad) n2.r q2 hl (congrFun (if_pos (CT hl q2.len)) w2.H)
 exact⟨b,w3,Ap e1 ((Av (On e1 e3 e2.len)).trans ((Av e4).trans e5)),(n.trans n2).trans n3,q3⟩
noncomputable abbrev D9(lo hi:Int):List TV:=(BV lo hi).map .s
theorem Oe{vs:List V}:Rs (FR G) (vs.map .s) vs:=by
 induction vs with
 | nil=>exact .nil
 | cons v vs ih=>exact .cons .s ih
theorem ER{n:Nat}:(BV 0 (n:Int)).length=n:=by unfold BV;simp
noncomputable def NG(m:Mine.Env->M (Option V))(env:AA)(k:LV):Tr Unit LV:=fun J L sc K J=>oE k.i? fun z=>∀{n:Nat},z=(n:Int)->n<=1000->∀{ys L'},Fg m env (D9 0 n) L ys L'->newL L' ys sc K
theorem S5{m:Mine.Env->M (Option V)}:AV (P2 RV AF) AF (fun p=>vI p.2 bad fun n=>if 0<=n/\n<=BR then bnd (still (Bv (fun x=>m (p.1++[some x])) (ret ()) (BV 0 n))) fun ys=>if ys.length<=BR then alloc (.list ys)else bad else bad) fun p=>NG m p.1 p.2 ():=fun p L sc K X hK hX=>Ax fun z hz n hn hl ys L' ht=>hK _ _ _ fun F w s r hs=>by
 obtain⟨s1,s2⟩:=s
 cases EZ hz hs.2
 subst hn
 obtain⟨us,w2,e4,n2,q2⟩:=(Sa (post:=ret ()) ht r hs.1 Oe fun J J=>rfl).still
 have hl2:ys.length<=5000:=Nat.le_trans (OX ht) (by rw[List.length_map,ER];exact Nat.le_trans hl (by decide))
 obtain⟨b,w3,e5,n3,q3⟩:=Rn.newL (m:=if us.length<=BR then alloc (.list us)else bad) n2.r q2 hl2 (congrFun (if_pos (CT hl2 q2.len)) w2.H)
 exact⟨b,w3,(congrFun (if_pos ⟨Int.natCast_nonneg n,Int.ofNat_le.mpr (Nat.le_trans hl (by decide))⟩) w.H).trans ((Av e4).trans e5),n2.trans n3,q3⟩
noncomputable def hO(h:Oc (AA×Option LV)->Prop)(s:Sc)(K:Kt (AA×Option LV))(X:Kt Nat):Prop:=sE s (fun s=>∀{p L},h (.ok p L)->K p L s) (fun s=>∀{m L},h (.exc m L)->X m L s) (fun J=>True) fun J=>True
noncomputable def VZ(B:Mine.Env->M (Mine.Env×Option V))(i:Nat)(env:AA)(k:LV):Tr Unit (AA×Option LV):=fun J L sc K X=>oE k.i? fun z=>∀{n:Nat},z=(n:Int)->n<=1000->hO (DL B i (D9 0 n) env L) sc K X
theorem Z1{B:Mine.Env->M (Mine.Env×Option V)}{i:Nat}:AV (P2 RV AF) HG (fun p=>vI p.2 bad fun n=>if 0<=n/\n<=BR then EW (fun x env=>B (env.set i (some x))) (ret ()) (BV 0 n) p.1 else bad) fun p=>VZ B i p.1 p.2 ():=fun p L sc K X hK hX=>Ax fun z hz n hn hl=>by
 have key:∀{out},DL B i (D9 0 n) p.1 L out->Sm (P2 RV AF) HG (fun p=>vI p.2 bad fun n=>if 0<=n/\n<=BR then EW (fun x env=>B (env.set i (some x))) (ret ()) (BV 0 n) p.1 else bad) p L out:=fun ht F w s r hs=>by
  obtain⟨s1,s2⟩:=s
  cases EZ hz hs.2
  subst hn
  dsimp only
  change Rn F L w (ite _ _ _) HG _
  rw[if_pos ⟨Int.natCast_nonneg n,Int.ofNat_le.mpr (Nat.le_trans hl (by decide))⟩]
  exact Nt ht r hs.1 Oe fun J J=>rfl
 exact HK (fun sc p L' h=>hK _ _ _ (key h)) (fun sc m L' h=>hX _ _ _ (key h)) (fun J=>trivial) fun J=>trivial
noncomputable def Wi(B:Mine.Env->M (Mine.Env×Option V))(i:Nat)(env:AA)(a b:LV):Tr Unit (AA×Option LV):=fun J L sc K X=>oE a.i? fun x=>oE b.i? fun y=>0<=x->x<=BR->0<=y->y<=BR->∀{p L'},DL B i (D9 x y) env L (.ok p L')->K p L' sc
theorem ZW{B:Mine.Env->M (Mine.Env×Option V)}{i:Nat}:AV (P2 (P2 RV AF) AF) HG (fun p=>Hb p.1.2 p.2 fun a z=>if 0<=a/\a<=BR/\0<=z/\z<=BR then still<|EW (fun x env=>B (env.set i (some x))) (ret ()) (BV a z) p.1.1 else bad) fun p=>Wi B i p.1.1 p.1.2 p.2 ():=fun p L sc K X hK hX=>Ax fun x hx=>Ax fun y hy h1 h2 h3 h4 p' L' ht=>hK _ _ _ fun F w s r hs=>by
 obtain⟨⟨s1,s2⟩,s3⟩:=s
 cases EZ hx hs.1.2
 cases EZ hy hs.2
 dsimp only
 change Rn F L w (ite _ _ _) HG _
 rw[if_pos ⟨h1,h2,h3,h4⟩]
 exact(Nt ht r hs.1.1 Oe fun J J=>rfl).still
noncomputable def V4(B:Mine.Env->M (Mine.Env×Option V))(i:Nat)(env:AA)(l:LV):Tr Unit (AA×Option LV):=fun J L sc K X=>X9 L l fun t L=>oE (T7 t) fun xs=>∀{p L'},DL B i xs env L (.ok p L')->K p L' sc
theorem Z7{B:Mine.Env->M (Mine.Env×Option V)}{i:Nat}:AV (P2 RV AF) HG (fun p=>bnd (B4 p.2) fun c=>bnd (Hz p.2) fun xs=>still (EW (fun x env=>B (env.set i (some x))) (stays p.2 c) xs p.1)) fun p=>V4 B i p.1 p.2 ():=fun p L sc K X hK hX=>Ax fun q hq=>Ax fun xs hx p' L' ht=>hK _ _ _ fun F w s r hs=>by
 obtain⟨s1,s2⟩:=s
 obtain⟨n,a,vs,e,e1,e2,e3,st⟩:=over r hs.2 hq hx
 cases e
 obtain⟨us,w2,e4,n2,q2⟩:=(Nt ht n.r (AI n.l n.p hs.1) e2 st).still
 exact⟨us,w2,Ap e1 ((Av (On e1 e3 e2.len)).trans e4),n.trans n2,q2⟩
end
section
variable{α β τ σ ς:Type}{R:Ed σ ς}{rel:Ed τ α}{F:Fm}{L L':List LC}{w:Wd}{G:Nat->Af->Prop}{ρ:List Nat}{H:MH}{Aa:List Int}{d:Nat}{f:Fn}
theorem Ri{k:Dx}{fs:List (Nat×V)}(h:fs.length<=(E8 fs).length+1):dm (.inst k fs)=.inst k (E8 fs):=by
 show Bool.rec (motive:=fun J=>Af) (.dictP []) (.inst k (E8 fs)) (Nat.ble fs.length ((E8 fs).length+1))=_
 rw[Nat.ble_eq_true_of_le h]
theorem EN{n:Nat}{v:V}:∀{l:List (Nat×V)},(put n v l).length=l.length+((look n l).rec 1 fun J=>0)
 | []=>rfl
 | p::r=>by
  unfold put
  show(if p.1=n then(n,v)::r else p::put n v r).length=(p::r).length+((if p.1=n then some p.2 else look n r).rec 1 fun J=>0)
  by_cases h:p.1=n
  .rw [if_pos h,if_pos h];rfl
  .rw [if_neg h,if_neg h,List.length_cons,List.length_cons,EN,Nat.add_right_comm]
theorem Ij{n:Nat}{v:V}(hn:n≠3):∀fs:List (Nat×V),E8 (put n v fs)=put n v (E8 fs)
 | []=>List.filter_cons_of_pos (bne_iff_ne.mpr hn)
 | p::r=>by
  have e:∀s:List (Nat×V),put n v (p::s)=if p.1=n then(n,v)::s else p::put n v s:=fun J=>rfl
  have f1:p.1≠3->∀s,E8 (p::s)=p::E8 s:=fun h s=>List.filter_cons_of_pos (bne_iff_ne.mpr h)
  have f2:p.1=3->∀s,E8 (p::s)=E8 s:=fun h s=>List.filter_cons_of_neg (by rw[h];decide)
  rw[e]
  by_cases h3:p.1=3
  .rw [if_neg (by rw[h3];exact Ne.symm hn),f2 h3,f2 h3,Ij hn r]
  .rw [f1 h3,e]
   by_cases h:p.1=n
   .rw [if_pos h,if_pos h];exact List.filter_cons_of_pos (bne_iff_ne.mpr hn)
   .rw [if_neg h,if_neg h,f1 h3,Ij hn r]
theorem Jn{v:V}:∀fs:List (Nat×V),E8 (put 3 v fs)=E8 fs/\(look 3 fs=none->E8 fs=fs)
 | []=>⟨rfl,fun J=>rfl⟩
 | p::r=>by
  have ih:=Jn (v:=v) r
  have f1:p.1≠3->∀s,E8 (p::s)=p::E8 s:=fun h s=>List.filter_cons_of_pos (bne_iff_ne.mpr h)
  have f2:p.1=3->∀s,E8 (p::s)=E8 s:=fun h s=>List.filter_cons_of_neg (by rw[h];decide)
  have e:put 3 v (p::r)=if p.1=3 then(3,v)::r else p::put 3 v r:=rfl
  have e2:look 3 (p::r)=if p.1=3 then some p.2 else look 3 r:=rfl
  rw[e,e2]
  by_cases h3:p.1=3
  .rw [if_pos h3,if_pos h3,f2 h3];exact⟨rfl,fun h=>by cases h⟩
  .rw [if_neg h3,if_neg h3,f1 h3,f1 h3];exact⟨congrArg (List.cons p) ih.1,fun h=>congrArg (List.cons p) (ih.2 h)⟩
theorem So{v:V}{fs:List (Nat×V)}(h:fs.length<=(E8 fs).length+1):(put 3 v fs).length<=(E8 (put 3 v fs)).length+1:=by
 have q:=Jn (v:=v) fs
 rw[q.1,EN]
 cases e:look 3 fs with
 | none=>rw[q.2 e];exact Nat.le_refl _
 | some x=>exact h
theorem Rr{n:Nat}{v:V}(hn:n≠3){fs:List (Nat×V)}(h:fs.length<=(E8 fs).length+1):(put n v fs).length<=(E8 (put n v fs)).length+1:=by
 rw[Ij hn,EN,EN,show look n (E8 fs)=look n fs from DF hn fs];exact q5 ‹_›
noncomputable def Pc(a:Nat)(v x:LV):Tr Unit Unit:=fun J L sc K J=>(Nat.beq a 3).rec
 (oE x.r? fun i=>oE (L[i]?) fun c=>oE c.i? fun p=>p.rec fun k fs=>bE (Nat.ble (put a v fs).length 90) (K () (L.set i (.ins k (put a v fs))) sc))
 (oE (rd Ct.i? L x) fun J=>K () L sc)
theorem aI(a:Nat):AV LL RU (fun p=>Iu p.2 a p.1) (fun p=>Pc a p.1 p.2 ()):=fun p L sc K X hK hX=>by
 show Pc a p.1 p.2 () L sc K X
 unfold Pc
 cases h3:Nat.beq a 3 with
 | true=>
  cases Nat.eq_of_beq_eq_true h3
  exact Ax fun q hq=>hK _ _ _ fun F w s r hs=>by
   obtain⟨s1,s2⟩:=s
   obtain⟨b,fs,e,e1,e2,e3,e4⟩:=cY r hs.2 hq
   cases e
   have lt:=(Ew.mp e1).1
   have hl:fs.length < 100:=by have:=e2.len;exact qY ‹_› ‹_› ‹_› (by rfl)
   refine⟨(),⟨w.ρ,w.H.set b (.inst q.1 (EX 3 s1 fs))⟩,Ap e1 (congrFun (if_pos hl) w.H),Ic r (by rw[List.length_set];exact Nat.le_refl _) fun x J=> ?_,trivial⟩
   by_cases hx:x=b
   .subst hx
    rw[EY lt,Ih,Ri (So e4),(Jn fs).1]
    unfold gd;rw[e1];exact(congrArg some (Ri e4)).symm
   .exact Fu hx
 | false=>
  have hn:a≠3:=Nat.ne_of_beq_eq_false h3
  exact Ax fun i hi=>Ax fun c hc=>Ax fun q hq=>Hd fun hl=>hK _ _ _ fun F w s r hs=>by
   obtain⟨s1,s2⟩:=s
   obtain⟨b,eb,e⟩:=RI hi hs.2
   cases e
   have hm:=hc.trans (congrArg some (cX hq))
   obtain⟨vs,g1,g2,g3⟩:=r.cells i b _ eb hm
   obtain⟨fs,e1,rfl,e4⟩:=H8 g1
   have hl2:fs.length < 100:=by have:=g2.len;exact qY ‹_› ‹_› ‹_› (by rfl)
   refine⟨(),⟨w.ρ,w.H.set b (.inst q.1 (EX a s1 fs))⟩,Ap e1 (congrFun (if_pos hl2) w.H),I1 r eb hm rfl rfl (by rw[List.length_set];exact Nat.le_refl _) (fun J J h=>Fu h) fun l=> ?_,trivial⟩
   refine⟨put a s1 (E8 fs),?_,(g2.mono (KR.mono fun J J=>AF.mono l (List.prefix_refl _))).put (AF.mono l (List.prefix_refl _) hs.1),BI hl⟩
   rw[EY (r.lt i b eb),Ih,Ri (Rr hn e4),Ij hn]
noncomputable def V5(v o k:LV):Tr Unit Unit:=fun J L sc K J=>X9 L v fun t L=>oE o.r? fun i=>oE (L[i]?) fun c=>c.l?.rec
 (c.d?.rec (oE c.e? fun kvs=>oE k.i? fun z=>oE (Io z) fun n=>n<=BR->Nat.lt kvs.length 90->K () (L.set i (.dci (put z t kvs))) sc) fun kvs=>oE k.w? fun j=>Nat.lt kvs.length 90->K () (L.set i (.dct (put j t kvs))) sc)
 fun p=>oE k.i? fun z=>oE (Io z) fun n=>p.rec fun b xs=>n < xs.length->K () (L.set i (.lst b (xs.set n t))) sc
theorem ZH:AV (P2 LL AF) RU (fun p=>Dg p.1.2 p.2 p.1.1) (fun p=>V5 p.1.1 p.1.2 p.2 ()):=fun p L sc K X hK hX=>Ax fun q hq=>Ax fun i hi=>Ax fun c hc=>by
 have key:∀{F:Fm} {w:Wd} {s:(V×V)×V},Rl F L w->P2 LL AF (Gz F L w) w.ρ p s->∃b,s.1.2=.ref b/\w.ρ[i]? =some b/\Nx F L w q.2 w/\FR (Gz F q.2 w) q.1 s.1.1:=fun r hs=>
  let⟨b,eb,e⟩:=RI hi hs.1.2
  let⟨n,z⟩:=GQ r hs.1.1 hq
  ⟨b,e,eb,n,z⟩
 cases hl:c.l? with
 | some y=>
  have hm:=hc.trans (congrArg some (UD hl))
  exact Ax fun z hz=>Ax fun n hn Ef=>hK _ _ _ fun F w s r hs=>by
   obtain⟨b,e,eb,nx,f⟩:=key r hs
   obtain⟨⟨s1,s2⟩,s3⟩:=s
   cases e
   cases EZ hz hs.2
   cases JX hn
   obtain⟨vs,g1,g2,g3⟩:=nx.r.cells i b _ eb hm
   have hlt2:=Ef
   rw[<-g2.len]at Ef
   exact⟨(),⟨w.ρ,w.H.set b (.list (vs.set n s1))⟩,Ap (DB g1) (congrFun (if_pos ⟨Int.natCast_nonneg n,Int.ofNat_lt.mpr Ef,CT g3 g2.len⟩) w.H),nx.trans (GW nx.r eb hm (g2.set f n) (by rw[List.length_set];exact g3)),trivial⟩
 | none=>
  show Option.rec _ _ (c.d?)
  cases hd:c.d? with
  | some kvs=>
   have hm:=hc.trans (congrArg some (ZN hd))
   exact Ax fun j hj Ef=>hK _ _ _ fun F w s r hs=>by
    obtain⟨b,e,eb,nx,f⟩:=key r hs
    obtain⟨⟨s1,s2⟩,s3⟩:=s
    cases e
    cases JB hj hs.2
    obtain⟨vs,g1,g2,g3⟩:=nx.r.cells i b _ eb hm
    refine⟨(),⟨w.ρ,w.H.set b (.dictW (EX j s1 vs))⟩,Ap (DH g1) (congrFun (if_pos (by rw[g2.len];exact Nat.lt_of_le_of_lt g3 (by decide))) w.H),nx.trans ?_,trivial⟩
    rw[Ih]
    exact R7 nx.r eb hm (g2.put f) (Nat.le_trans HU Ef)
  | none=>
   exact Ax fun kvs he=>Ax fun z hz=>Ax fun n hn hle Ef=>hK _ _ _ fun F w s r hs=>by
    have hm:=hc.trans (congrArg some (eT he))
    obtain⟨b,e,eb,nx,f⟩:=key r hs
    obtain⟨⟨s1,s2⟩,s3⟩:=s
    cases e
    cases EZ hz hs.2
    cases JX hn
    obtain⟨vs,g1,g2,g3⟩:=nx.r.cells i b _ eb hm
    refine⟨(),⟨w.ρ,w.H.set b (.dictI (LT n s1 vs))⟩,Ap (LG g1) (congrFun (if_pos ⟨by rw[g2.len];exact Nat.lt_of_le_of_lt g3 (by decide),Int.natCast_nonneg n,Int.ofNat_le.mpr hle⟩) w.H),nx.trans ?_,trivial⟩
    rw[OM]
    exact Xa nx.r eb hm (g2.put f) (Nat.le_trans HU Ef)
noncomputable def Wm(is:List Nat):List TV->AA->Option AA:=is.rec (fun xs env=>xs.casesOn (some env) fun J J=>none) fun i J ih xs env=>xs.casesOn none fun x r=>ih r (env.set i (some (.f x)))
theorem Tp{is:List Nat}:∀{xs:List TV} {vs:List V} {env env1:AA} {Ai:Mine.Env},Rs (FR G) xs vs->Rs (OV (AF G ρ)) env Ai->Wm is xs env=some env1->∃e2,Eg is vs Ai=some e2/\Rs (OV (AF G ρ)) env1 e2:=by
 induction is with
 | nil=>
  intro xs vs env env1 Ai h he e
  cases h with
  | nil=>cases e;exact⟨Ai,rfl,he⟩
  | cons=>cases e
 | cons i is ih=>
  intro xs vs env env1 Ai h he e
  cases h with
  | nil=>cases e
  | cons x h=>exact ih h (he.set (OV.so (a:=LV.f _) x) i) e
noncomputable def We(is:List Nat)(env:AA)(v:LV):Tr Unit (AA×Option LV):=fun J L sc K J=>oE (rd Ct.t? L v) fun xs=>oE (Wm is xs env) fun env=>K (env,none) L sc
theorem ZD(is:List Nat):AV (P2 RV AF) HG (fun p=>bnd (B4 p.2) fun c=>cT c bad fun xs=>bnd (Cp (Eg is xs p.1)) fun Ai=>ret (Ai,none)) (fun p=>We is p.1 p.2 ()):=fun p L sc K X hK hX=>Ax fun xs hx=>Ax fun env he=>AV.same hK fun F w s r hs=>by
 obtain⟨s1,s2⟩:=s
 obtain⟨a,vs,e,e1,e2,e3⟩:=fG r hs.2 hx
 cases e
 obtain⟨e4,e5,e6⟩:=Tp e2 hs.1 he
 exact⟨(e4,none),Ap e1 ((Av (Bn e5)).trans rfl),e6,.no⟩
theorem aH{m:ς->M V}{k:Tr σ LV}(h:AV R AF m k):AV R AF (fun s H=>if H[0]? =some .tab then J5 (m s) H else .bad) fun x L sc K X=>k x L sc K fun e L sc=>K (sv (.w e)) L sc:=fun x L sc K X hK hX=>by
 have tab:∀{F:Fm} {w:Wd},Rl F L w->w.H[0]? =some .tab:=fun r=>by
  obtain⟨c,e,h⟩:=Ju r.tab
  cases c with
  | tab=>exact e
  | inst k fs=>rcases GB h with h | ⟨h,_⟩<;>cases h
  | _=>cases h
 refine h x L sc _ _ (fun t L' sc' q=>hK _ _ _ fun F w s r hs=> ?_) fun t L' sc' q=>hK _ _ _ fun F w s r hs=> ?_
 .obtain ⟨a,w',e,q⟩:=q F w s r hs
  refine⟨a,w',(if_pos (tab r)).trans ?_,q⟩
  unfold J5;rw[e]
 .obtain ⟨w',e,q⟩:=q F w s r hs
  refine⟨.w t,w',(if_pos (tab r)).trans ?_,q,.s⟩
  unfold J5;rw[e]
end
section
variable{α β τ υ σ ς:Type}{R:Ed σ ς}{rel:Ed τ α}{rel2:Ed υ β}{L L':List LC}
noncomputable abbrev kU(k:Tr σ τ)(p:Tr τ υ):Tr σ υ:=fun x L sc K X=>k x L sc (fun t L sc=>p t L sc K X) X
noncomputable abbrev kB{τ':Type}(k:Tr σ τ)(k':Tr σ τ')(p:τ->τ'->Tr Unit υ):Tr σ υ:=fun x L sc K X=>k x L sc (fun t L sc=>k' x L sc (fun u L sc=>p t u () L sc K X) X) X
noncomputable abbrev kC{γ τ':Type}(k:Tr σ τ)(c:Tr τ γ)(k':Tr σ τ')(p:τ->γ->τ'->Tr Unit υ):Tr σ υ:=fun x L sc K X=>k x L sc (fun t L sc=>c t L sc (fun g L sc=>k' x L sc (fun u L sc=>p t g u () L sc K X) X) X) X
noncomputable def XH(op:UV)(x y:LV):Tr Unit LV:=fun J L sc K J=>op.casesOn (dQ x y L sc fun b sc=>K (bl b) L sc) (dQ x y L sc fun b sc=>K (bl !b) L sc)
 (oE x.i? fun i=>oE y.i? fun j=>tE (i < j) sc fun b sc=>K (bl b) L sc) (oE x.i? fun i=>oE y.i? fun j=>tE (i<=j) sc fun b sc=>K (bl b) L sc)
 (oE x.i? fun i=>oE y.i? fun j=>tE (j < i) sc fun b sc=>K (bl b) L sc) (oE x.i? fun i=>oE y.i? fun j=>tE (j<=i) sc fun b sc=>K (bl b) L sc)
 (bJ x y L sc fun b sc=>K (bl b) L sc) (bJ x y L sc fun b sc=>K (bl !b) L sc)
theorem eV(op:UV):AV LL AF (fun p=>bnd (S3 op p.1 p.2) fun t=>ret (.bool t)) (fun p=>XH op p.1 p.2 ()):=fun p L sc K X hK hX=>by
 have ord:∀{P:Int->Int->Prop} [∀i j,Decidable (P i j)] {sc},(∀i j H,bnd (S3 op (.int i) (.int j)) (fun t=>ret (V.bool t)) H=.ok (V.bool (decide (P i j))) H)->oE p.1.i? fun i=>oE p.2.i? fun j=>tE (P i j) sc fun b sc=>K (bl b) L sc:=fun h=>Ax fun i hi=>Ax fun j hj=>ZI fun sc=>AV.same hK fun F w s r hs=>by
  obtain⟨s1,s2⟩:=s
  cases EZ hi hs.1;cases EZ hj hs.2
  exact⟨_,h i j w.H,.s⟩
 have one:∀{b:Bool} {c:Bool->Bool} {sc} (e:∀F w x' y',Rl F L w->AF (Gz F L w) w.ρ p.1 x'->AF (Gz F L w) w.ρ p.2 y'->S3 op x' y' w.H=.ok (c b) w.H),K (bl (c b)) L sc:=fun e=>AV.same hK fun F w s r hs=>⟨_,(Av (e F w s.1 s.2 r hs.1 hs.2)).trans rfl,.s⟩
 show XH op p.1 p.2 () L sc K X
 cases op with
 | eq=>exact fQ (k:=fun b sc=>K (bl b) L sc) fun b sc h=>one (c:=id) fun F w x' y' r h1 h2=>Bn (h F w x' y' r h1 h2)
 | ne=>exact fQ (k:=fun b sc=>K (bl !b) L sc) fun b sc h=>one (c:=not) fun F w x' y' r h1 h2=>(Av (Bn (h F w x' y' r h1 h2))).trans rfl
 | lt=>exact ord (P:=fun i j=>i < j) fun J J J=>rfl
 | le=>exact ord (P:=fun i j=>i<=j) fun J J J=>rfl
 | gt=>exact ord (P:=fun i j=>j < i) fun J J J=>rfl
 | ge=>exact ord (P:=fun i j=>j<=i) fun J J J=>rfl
 | isin=>exact fB (k:=fun b sc=>K (bl b) L sc) fun b sc h=>one (c:=id) h
 | notin=>exact fB (k:=fun b sc=>K (bl !b) L sc) fun b sc h=>one (c:=not) fun F w x' y' r h1 h2=>(Av (h F w x' y' r h1 h2)).trans rfl
variable(Aa:List Int)(oc:Fn->Option (Tr (List LV) LV))(bw:Fn->Option Nat)(d:Nat)
noncomputable def Mo(f:Fn):Tr (List LV) LV:=(oc f).rec ((bw f).rec (Ra Aa d f) (R1 Aa d f)) id
noncomputable abbrev Ww(elt:ME Fn)(env:Mine.Env):M (Option V):=bnd (Ac (CS Aa d) elt env) fun y=>ret (some y)
noncomputable abbrev bA(elt cond:ME Fn)(env:Mine.Env):M (Option V):=bnd (Ac (CS Aa d) cond env) fun c=>bnd (AG c) fun t=>if t then bnd (Ac (CS Aa d) elt env) fun y=>ret (some y)else ret none
noncomputable abbrev bZ(m:Mine.Env->M V):Tr AA LV:=fun env L sc K J=>∀{t L'},Sm RV AF m env L (.ok t L')->K t L' sc
noncomputable abbrev ZP:Tr AA LV:=fun J L sc K J=>K (.r L.length) (L++[.dct []]) sc
mutual
noncomputable def RE:ME Fn->Tr AA LV
 | .O i=>XR i
 | .cst v=>fun J L sc K J=>K (sv v) L sc
 | .usub k=>fun J L sc K J=>K (il (-(k:Int))) L sc
 | .gmax=>fun J L sc K J=>K (il 1000000) L sc
 | .attr e a=>kU (RE e) (Rf a)
 | .idx e i=>kB (RE e) (RE i) UT
 | .cutTo e k=>kB (RE e) (RE k) (RX Aa)
 | .cutFrom e k=>kB (RE e) (RE k) MP
 | .bin op a b=>kB (RE a) (RE b) (TT op)
 | .cmp op a b=>kB (RE a) (RE b) (XH op)
 | .isNone n e=>kU (RE e) (Ry n)
 | .inW n e ws=>kU (RE e) (Xr n ws)
 | .and2 a b=>fun env L sc K X=>RE a env L sc (fun x L sc=>oE x.b? fun t=>t.rec (K x L sc) (RE b env L sc K X)) X
 | .or2 a b=>fun env L sc K X=>RE a env L sc (fun x L sc=>oE x.b? fun t=>t.rec (RE b env L sc K X) (K x L sc)) X
 | .not a=>kU (RE a) W6
 | .ite c a b=>fun env L sc K X=>RE c env L sc (fun x L sc=>oE x.b? fun t=>t.rec (RE b env L sc K X) (RE a env L sc K X)) X
 | .lst es=>kU (YR es) XF
 | .tup es=>kU (YR es) XM
 | .dct0=>ZP
 | .dct0I=>fun J L sc K J=>K (.r L.length) (L++[.dci []]) sc
 | .dct1 n e=>kB ZP (RE e) (Wb n)
 | .call f es=>kU (YR es) (Mo Aa oc bw d f)
 | .mk c es=>kU (YR es) (eP d c)
 | .len e=>kU (RE e) X5
 | .listOf e=>kU (RE e) KV
 | .dictOf e=>kU (RE e) Lk
 | .strOf e=>kU (RE e) XE
 | .max2 a b=>kB (RE a) (RE b) Z3
 | .isV e=>kU (RE e) Tz
 | .isT e t=>kU (RE e) (bR t)
 | .append o e=>kC (RE o) R2 (RE e) fun x J y=>Zd x y
 | .extend o e=>kC (RE o) R2 (RE e) fun x J y=>W9 x y
 | .pop o=>kU (RE o) X8
 | .reverse o=>kU (RE o) Ym
 | .index o e=>kC (RE o) Wn (RE e) RC
 | .get1 o k=>kC (RE o) QL (RE k) fun x J y=>Yv x y (sv .none)
 | .get2 o k e=>fun env L sc K X=>RE o env L sc (fun x L sc=>QL x L sc (fun J L sc=>RE k env L sc (fun y L sc=>RE e env L sc (fun z L sc=>Yv x y z () L sc K X) X) X) X) X
 | .starts o k=>kC (RE o) V0 (RE k) fun x J y=>OL x y
 | .mcall o f=>fun env L sc K X=>RE o env L sc (fun x L sc=>Tz x L sc (fun J L sc=>Mo Aa oc bw d f [x] L sc K X) X) X
 | .comp e it=>fun env L sc K X=>RE it env L sc (fun l L sc=>Wu (Ww Aa d e) env l () L sc K X) X
 | .compR e n=>fun env L sc K X=>RE n env L sc (fun l L sc=>NG (Ww Aa d e) env l () L sc K X) X
 | .compIf e c n=>fun env L sc K X=>RE n env L sc (fun l L sc=>NG (bA Aa d e c) env l () L sc K X) X
 | .dcomp v it=>bZ (Ac (CS Aa d) (.dcomp v it))
 | .kept e=>fun env L sc K X=>RE e env L sc K fun m L sc=>K (sv (.w m)) L sc
 | .bad=>fun J J J J J=>True
noncomputable def YR:List (ME Fn)->Tr AA (List LV)
 | []=>fun J L sc K J=>K [] L sc
 | e::r=>fun env L sc K X=>RE e env L sc (fun v L sc=>YR r env L sc (fun vs L sc=>K (v::vs) L sc) X) X
end
theorem Ch:FL (P2 RV AF):=CX AI DP
theorem VU(hoc:∀f k,oc f=some k->AV RA AF (HR Aa d f) k)(f:Fn):AV RA AF (HR Aa d f) (Mo Aa oc bw d f):=by
 unfold Mo
 cases h:oc f with
 | some k=>exact hoc f k h
 | none=>cases bw f with
  | none=>exact Yi
  | some j=>exact Yc
theorem ES{m:ς->M α}{k:Tr σ τ}{S:Ed υ β}(h:AV R rel m k):AV (P2 R S) rel (fun p=>m p.1) fun p=>k p.1:=Cr (g:=Prod.fst) (g':=Prod.fst) h fun h=>h.1
theorem U4{f:α->M β}{k:Tr τ υ}(h:AV rel rel2 f k):AV (P2 R rel) rel2 (fun p=>f p.2) fun p=>k p.2:=Cr (g:=Prod.snd) (g':=Prod.snd) h fun h=>h.2
theorem WD:AV (P2 R rel) rel (fun p=>ret p.2) fun p L sc K J=>K p.2 L sc:=fun p L sc K X hK hX=>AV.same hK fun F w s r hs=>⟨s.2,rfl,hs.2⟩
theorem M2{f:α->M β}{k2:Tr τ υ}{m:Mine.Env->M α}{k:Tr AA τ}(h:AV RV rel m k)(h2:AV rel rel2 f k2):AV RV rel2 (fun s=>bnd (m s) f) (kU k k2):=W8 (k2:=k2) AI h h2
theorem W2{m m':Mine.Env->M V}{k k':Tr AA LV}{f:V->V->M β}{p:LV->LV->Tr Unit υ}(h:AV RV AF m k)(h':AV RV AF m' k')(h2:AV LL rel2 (fun p=>f p.1 p.2) fun q=>p q.1 q.2 ()):AV RV rel2 (fun s=>bnd (m s) fun x=>bnd (m' s) fun y=>f x y) (kB k k' p):=Vh AI DP h h' (k2:=fun t u=>p t u ()) h2
theorem FB:FL RU:=fun J J J J J=>trivial
theorem Vg:FL RB:=fun J J J J h=>h
theorem Zo{γ δ:Type}{relc:Ed γ δ}{m m':Mine.Env->M V}{k k':Tr AA LV}{c:V->M δ}{kc:Tr LV γ}{f:V->δ->V->M β}{p:LV->γ->LV->Tr Unit υ}(mc:FL relc)(h:AV RV AF m k)(hc:AV AF relc c kc)(h':AV RV AF m' k')(h2:AV (P2 (P2 AF relc) AF) rel2 (fun p=>f p.1.1 p.1.2 p.2) fun q=>p q.1.1 q.1.2 q.2 ()):
  AV RV rel2 (fun s=>bnd (m s) fun x=>bnd (c x) fun z=>bnd (m' s) fun y=>f x z y) (kC k kc k' p):=Ul AI DP mc h hc h' (k2:=fun t g u=>p t g u ()) h2
theorem Ru{f:V×V->M β}{k:Tr (LV×LV) υ}(h:AV LL rel2 f k):AV (P2 (P2 AF RU) AF) rel2 (fun p=>f (p.1.1,p.2)) fun p=>k (p.1.1,p.2):=Cr (R':=P2 (P2 AF RU) AF) (g:=fun p:(V×Unit)×V=>(p.1.1,p.2)) (g':=fun p:(LV×Unit)×LV=>(p.1.1,p.2)) h fun h=>⟨h.1.1,h.2⟩
theorem Zb:AV (P2 (P2 RV AF) RA) RA (fun p=>ret (p.1.2::p.2)) fun p L sc K J=>K (p.1.2::p.2) L sc:=fun p L sc K X hK hX=>AV.same hK fun F w s r hs=>⟨s.1.2::s.2,rfl,.cons hs.1.2 hs.2⟩
theorem Mw(hoc:∀f k,oc f=some k->AV RA AF (HR Aa d f) k)(e:ME Fn):AV RV AF (Ac (CS Aa d) e) (RE Aa oc bw d e):=
 ME.rec (F:=Fn) (motive_1:=fun e=>AV RV AF (Ac (CS Aa d) e) (RE Aa oc bw d e)) (motive_2:=fun es=>AV RV RA (Ep (CS Aa d) es) (YR Aa oc bw d es))
  aJ Xn (fun k=>Xn (.int (-(k:Int)))) (Xn (.int 1000000))
  (fun J a h=>M2 (k2:=Rf a) h (Y4 a)) (fun J J h h'=>W2 h h' bY) (fun J J h h'=>W2 h h' (Xh Aa)) (fun J J h h'=>W2 h h' RZ)
  (fun op J J h h'=>W2 h h' (eF op)) (fun op J J h h'=>W2 h h' (eV op)) (fun n J h=>M2 (k2:=Ry n) h (Zm n)) (fun n J ws h=>M2 (k2:=Xr n ws) h (cE n ws))
  (fun J J h h'=>Aw AI h (bP (ES h') WD)) (fun J J h h'=>Aw AI h (bP WD (ES h'))) (fun J h=>M2 (k2:=W6) h eK)
  (fun J J J hc ha hb=>Aw AI hc (bP (ES ha) (ES hb)))
  (fun J h=>M2 (k2:=XF) h eH) (fun J h=>M2 (k2:=XM) h cO) Wk XY (fun n J h=>W2 Wk h (aA n)) (fun f J h=>M2 (k2:=Mo Aa oc bw d f) h (VU Aa oc bw d hoc f)) (fun c J h=>M2 (k2:=eP d c) h (hV c))
  (fun J h=>M2 (k2:=X5) h eQ) (fun J h=>M2 (k2:=KV) h T3) (fun J h=>M2 (k2:=Lk) h Vr) (fun J h=>M2 (k2:=XE) h eW) (fun J J h h'=>W2 h h' bW) (fun J h=>M2 (k2:=Tz) h Zv) (fun J t h=>M2 (k2:=bR t) h (gS t))
  (fun J J h h'=>Zo FB h Wc h' (Ru eD)) (fun J J h h'=>Zo FB h Wc h' (Ru Z2)) (fun J h=>M2 (k2:=X8) h dE) (fun J h=>M2 (k2:=Ym) h dR)
  (fun J J h h'=>Zo Vg h aE h' YA)
  (fun J J h h'=>Zo FB h Wj h' (Cr (R':=P2 (P2 AF RU) AF) (g:=fun p:(V×Unit)×V=>((p.1.1,p.2),V.none)) (g':=fun p:(LV×Unit)×LV=>((p.1.1,p.2),sv .none)) Zt fun h=>⟨⟨h.1.1,h.2⟩,.s⟩))
  (fun J J J h h' h2=>Aw AI h (Aw Ch (U4 Wj) (Aw (CX Ch FB) (ES (ES h')) (Aw (CX (CX Ch FB) DP) (ES (ES (ES h2)))
   (Cr (R':=P2 (P2 (P2 (P2 RV AF) RU) AF) AF) (g:=fun p:(((Mine.Env×V)×Unit)×V)×V=>((p.1.1.1.2,p.1.2),p.2)) (g':=fun p:(((AA×LV)×Unit)×LV)×LV=>((p.1.1.1.2,p.1.2),p.2)) Zt fun h=>⟨⟨h.1.1.1.2,h.1.2⟩,h.2⟩)))))
  (fun J J h h'=>Zo FB h Zk h' (Ru Ut))
  (fun J f h=>Aw AI h (Aw Ch (U4 Zv) (ES (Cr (R':=P2 RV AF) (g:=fun p:Mine.Env×V=>[p.2]) (g':=fun p:AA×LV=>[p.2]) (VU Aa oc bw d hoc f) fun h=> .cons h.2 .nil))))
  (fun e J J h=>Aw AI h (Z5 (m:=Ww Aa d e))) (fun e J J h=>Aw AI h (S5 (m:=Ww Aa d e))) (fun e c J J J h=>Aw AI h (S5 (m:=bA Aa d e c)))
  (fun J J J J=>fun env L sc K X hK hX t L' h=>hK t L' sc h)
  (fun J h=>aH h)
  (fun J J J J J J J=>trivial)
  (fun env L sc K X hK hX=>AV.same hK fun F w s r hs=>⟨[],rfl,.nil⟩)
  (fun J J h h'=>Aw AI h (Aw Ch (ES h') Zb)) e
end
section
variable{α β τ υ σ ς:Type}{R:Ed σ ς}{rel:Ed τ α}{rel2:Ed υ β}{L L':List LC}
variable(Aa:List Int)(oc:Fn->Option (Tr (List LV) LV))(bw:Fn->Option Nat)(d:Nat)
noncomputable abbrev KS:Type:=Tr AA (AA×Option LV)
noncomputable def PC{α:Type}(l:List α):(List α->Prop)->Prop:=l.rec (fun k=>k []) fun a J ih k=>ih fun r=>k (a::r)
theorem Fj{α:Type}:∀{l:List α} {k:List α->Prop},k l->PC l k
 | [],_,h=>h
 | a::l,k,h=>Fj (l:=l) (k:=fun r=>k (a::r)) h
mutual
noncomputable def RS:MS Fn->KS
 | .asg i e=>fun env L sc K X=>RE Aa oc bw d e env L sc (fun v L sc=>K (env.set i (some v),none) L sc) X
 | .asgT is e=>fun env L sc K X=>RE Aa oc bw d e env L sc (fun v L sc=>We is env v () L sc K X) X
 | .setA o a e=>fun env L sc K X=>RE Aa oc bw d e env L sc (fun v L sc=>RE Aa oc bw d o env L sc (fun x L sc=>Pc a v x () L sc (fun J L sc=>K (env,none) L sc) X) X) X
 | .setI o k e=>fun env L sc K X=>RE Aa oc bw d e env L sc (fun v L sc=>RE Aa oc bw d o env L sc (fun x L sc=>RE Aa oc bw d k env L sc (fun y L sc=>V5 v x y () L sc (fun J L sc=>K (env,none) L sc) X) X) X) X
 | .augL i e=>fun env L sc K X=>XR i env L sc (fun o L sc=>RE Aa oc bw d e env L sc (fun v L sc=>W9 o v () L sc (fun J L sc=>K (env,none) L sc) X) X) X
 | .ex e=>fun env L sc K X=>RE Aa oc bw d e env L sc (fun J L sc=>K (env,none) L sc) X
 | .ret e=>fun env L sc K X=>RE Aa oc bw d e env L sc (fun v L sc=>K (env,some v) L sc) X
 | .ret0=>fun env L sc K J=>K (env,some (sv .none)) L sc
 | .ifs c t e=>fun env L sc K X=>RE Aa oc bw d c env L sc (fun x L sc=>oE x.b? fun b=>b.rec (Ws e env L sc K X) (Ws t env L sc K X)) X
 | .forN i n b=>fun env L sc K X=>RE Aa oc bw d n env L sc (fun k L sc=>VZ (Am (CS Aa d) b) i env k () L sc K X) X
 | .forR i lo hi b=>fun env L sc K X=>RE Aa oc bw d lo env L sc (fun x L sc=>RE Aa oc bw d hi env L sc (fun y L sc=>Wi (Am (CS Aa d) b) i env x y () L sc K X) X) X
 | .forE i it b=>fun env L sc K X=>RE Aa oc bw d it env L sc (fun l L sc=>V4 (Am (CS Aa d) b) i env l () L sc K X) X
 | .forD i it b=>fun env L sc K J=>∀{p L'},Sm RV HG (E3 (CS Aa d) (.forD i it b)) env L (.ok p L')->K p L' sc
 | .raise m=>fun J L sc J X=>X m L sc
 | .bad=>fun J J J J J=>True
noncomputable def Ws:List (MS Fn)->KS
 | []=>fun env L sc K J=>K (env,none) L sc
 | s::r=>fun env L sc K X=>RS s env L sc (fun p L sc=>p.rec fun e o=>o.rec (PC e fun env=>PC L fun L=>Ws r env L sc K X) fun v=>K (e,some v) L sc) X
end
theorem Ki{g:ς->Mine.Env×Option V}{g':σ->AA×Option LV}(h:∀{G ρ x s},R G ρ x s->HG G ρ (g' x) (g s)):AV R HG (fun s=>ret (g s)) fun x L sc K J=>K (g' x) L sc:=fun p L sc K X hK hX=>AV.same hK fun F w s r hs=>⟨g s,rfl,h hs⟩
theorem aF{m:Mine.Env->M (Mine.Env×Option V)}{k:KS}(h:AV RV HG m k):AV HG HG (fun p=>match p.2 with | some v=>ret (p.1,some v) | none=>m p.1) fun p L sc K X=>p.rec fun e o=>o.rec (PC e fun env=>PC L fun L=>k env L sc K X) fun v=>K (e,some v) L sc:=fun p L sc K X hK hX=>by
 obtain⟨env,o⟩:=p
 cases o with
 | none=>
  refine Fj (Fj (h env L sc K X (fun t L' sc' q=>hK t L' sc' fun F w s r hs=> ?_) fun t L' sc' q=>hX t L' sc' fun F w s r hs=> ?_))<;>
  .obtain ⟨s1,s2⟩:=s
   have hs2:=hs.2
   cases hs2
   exact q F w s1 r hs.1
 | some v=>
  exact AV.same hK fun F w s r hs=>by
   obtain⟨s1,s2⟩:=s
   have hs2:=hs.2
   cases hs2 with
   | so q=>exact⟨(s1,some _),rfl,hs.1,.so q⟩
theorem dL{m1 m2:Mine.Env->M (Mine.Env×Option V)}{k1 k2:KS}(h1:AV RV HG m1 k1)(h2:AV RV HG m2 k2):AV (P2 RV AF) HG (fun p=>bnd (AG p.2) fun t=>if t then m1 p.1 else m2 p.1) fun p L sc K X=>oE p.2.b? fun b=>b.rec (k2 p.1 L sc K X) (k1 p.1 L sc K X):=bP (ES h1) (ES h2)
theorem aP(hoc:∀f k,oc f=some k->AV RA AF (HR Aa d f) k)(s:MS Fn):AV RV HG (E3 (CS Aa d) s) (RS Aa oc bw d s):=
 have E:=Mw Aa oc bw d hoc
 MS.rec (F:=Fn) (motive_1:=fun s=>AV RV HG (E3 (CS Aa d) s) (RS Aa oc bw d s)) (motive_2:=fun s=>AV RV HG (Am (CS Aa d) s) (Ws Aa oc bw d s))
  (fun i e=>Aw AI (E e) (Ki (g:=fun p:Mine.Env×V=>(p.1.set i (some p.2),none)) (g':=fun p:AA×LV=>(p.1.set i (some p.2),none)) fun h=>⟨h.1.set (.so h.2) i,.no⟩))
  (fun is e=>Aw AI (E e) (ZD is))
  (fun o a e=>Aw AI (E e) (Aw Ch (ES (E o)) (Aw (CX Ch DP) (Cr (R':=P2 (P2 RV AF) AF) (g:=fun p:(Mine.Env×V)×V=>(p.1.2,p.2)) (g':=fun p:(AA×LV)×LV=>(p.1.2,p.2)) (aI a) fun h=>⟨h.1.2,h.2⟩) (Ki (g:=fun p:((Mine.Env×V)×V)×Unit=>(p.1.1.1,none)) (g':=fun p:((AA×LV)×LV)×Unit=>(p.1.1.1,none)) fun h=>⟨h.1.1.1,.no⟩))))
  (fun o k e=>Aw AI (E e) (Aw Ch (ES (E o)) (Aw (CX Ch DP) (ES (ES (E k))) (Aw (CX (CX Ch DP) DP) (Cr (R':=P2 (P2 (P2 RV AF) AF) AF) (g:=fun p:((Mine.Env×V)×V)×V=>((p.1.1.2,p.1.2),p.2)) (g':=fun p:((AA×LV)×LV)×LV=>((p.1.1.2,p.1.2),p.2)) ZH fun h=>⟨⟨h.1.1.2,h.1.2⟩,h.2⟩) (Ki (g:=fun p:(((Mine.Env×V)×V)×V)×Unit=>(p.1.1.1.1,none)) (g':=fun p:(((AA×LV)×LV)×LV)×Unit=>(p.1.1.1.1,none)) fun h=>⟨h.1.1.1.1,.no⟩)))))
  (fun i e=>Aw AI (aJ i) (Aw Ch (ES (E e)) (Aw (CX Ch DP) (Cr (R':=P2 (P2 RV AF) AF) (g:=fun p:(Mine.Env×V)×V=>(p.1.2,p.2)) (g':=fun p:(AA×LV)×LV=>(p.1.2,p.2)) Z2 fun h=>⟨h.1.2,h.2⟩) (Ki (g:=fun p:((Mine.Env×V)×V)×V=>(p.1.1.1,none)) (g':=fun p:((AA×LV)×LV)×LV=>(p.1.1.1,none)) fun h=>⟨h.1.1.1,.no⟩))))
  (fun e=>Aw AI (E e) (Ki (g:=fun p:Mine.Env×V=>(p.1,none)) (g':=fun p:AA×LV=>(p.1,none)) fun h=>⟨h.1,.no⟩))
  (fun e=>Aw AI (E e) (Ki (g:=fun p:Mine.Env×V=>(p.1,some p.2)) (g':=fun p:AA×LV=>(p.1,some p.2)) fun h=>⟨h.1,.so h.2⟩))
  (Ki (g:=fun p:Mine.Env=>(p,some V.none)) (g':=fun p:AA=>(p,some (sv .none))) fun h=>⟨h,.so .s⟩)
  (fun c J J h1 h2=>Aw AI (E c) (dL h1 h2))
  (fun i n b J=>Aw AI (E n) (Z1 (B:=Am (CS Aa d) b) (i:=i)))
  (fun i lo hi b J=>Aw AI (E lo) (Aw Ch (ES (E hi)) (ZW (B:=Am (CS Aa d) b) (i:=i))))
  (fun i it b J=>Aw AI (E it) (Z7 (B:=Am (CS Aa d) b) (i:=i)))
  (fun i it b J=>fun env L sc K X hK hX p L' h=>hK p L' sc h)
  (fun m=>fun env L sc K X hK hX=>hX m L sc fun F w s r hs=>⟨w,rfl,.refl r⟩)
  (fun J J J J J J J=>trivial)
  (Ki (g:=fun p:Mine.Env=>(p,none)) (g':=fun p:AA=>(p,none)) fun h=>⟨h,.no⟩)
  (fun J J h h'=>Aw AI h (U4 (aF h'))) s
theorem Kz(hoc:∀f k,oc f=some k->AV RA AF (HR Aa d f) k):∀s:List (MS Fn),AV RV HG (Am (CS Aa d) s) (Ws Aa oc bw d s)
 | []=>Ki (g:=fun p:Mine.Env=>(p,none)) (g':=fun p:AA=>(p,none)) fun h=>⟨h,.no⟩
 | s::r=>Aw AI (aP Aa oc bw d hoc s) (U4 (aF (Kz hoc r)))
end
theorem dT{j:Nat}(h:j < 1):j=0:=Nat.lt_one_iff.mp h
theorem Qj{j:Nat}(h:j < 2):j=0\/j=1:=(Nat.lt_succ_iff_lt_or_eq.mp h).imp dT id
theorem Zz{j:Nat}(h:j < 3):j=0\/j=1\/j=2:=(Nat.lt_succ_iff_lt_or_eq.mp h).elim (fun h=>(Qj h).imp id .inl) fun h=> .inr (.inr h)
theorem bQ{j:Nat}(h:j < 4):j=0\/j=1\/j=2\/j=3:=(Nat.lt_succ_iff_lt_or_eq.mp h).elim (fun h=>(Zz h).imp id fun h=>h.imp id .inl) fun h=> .inr (.inr (.inr h))
theorem fJ{j:Nat}(h:j < 5):j=0\/j=1\/j=2\/j=3\/j=4:=(Nat.lt_succ_iff_lt_or_eq.mp h).elim (fun h=>(bQ h).imp id fun h=>h.imp id fun h=>h.imp id .inl) fun h=> .inr (.inr (.inr (.inr h)))
theorem gO{j:Nat}(h:j < 6):j=0\/j=1\/j=2\/j=3\/j=4\/j=5:=(Nat.lt_succ_iff_lt_or_eq.mp h).elim (fun h=>(fJ h).imp id fun h=>h.imp id fun h=>h.imp id fun h=>h.imp id .inl) fun h=> .inr (.inr (.inr (.inr (.inr h))))
theorem ZV{j:Nat}(h:j < 3):j<=1\/j=2:=(Nat.lt_succ_iff_lt_or_eq.mp h).imp Nat.le_of_lt_succ id
theorem eU{j:Nat}(h:j < 5):j<=1\/j=2\/j=3\/j=4:=(Nat.lt_succ_iff_lt_or_eq.mp h).elim (fun h=>(Nat.lt_succ_iff_lt_or_eq.mp h).elim (fun h=>(ZV h).imp id .inl) fun h=> .inr (.inr (.inl h))) fun h=> .inr (.inr (.inr h))
theorem eX{j:Nat}(h:j < 6):j=4\/j=5\/(j=0\/j=1\/j=2\/j=3):=(Nat.lt_succ_iff_lt_or_eq.mp h).elim (fun h=>(Nat.lt_succ_iff_lt_or_eq.mp h).elim (fun h=> .inr (.inr (bQ h))) .inl) fun h=> .inr (.inl h)
theorem fC{j n:Nat}(h:j < n)(hn:n<=1000):0<=(j:Int)/\(j:Int)<=100000:=⟨Int.natCast_nonneg j,Int.ofNat_le.mpr (Nat.le_trans (Nat.le_of_lt h) (Nat.le_trans hn (by decide)))⟩
theorem aC{j n:Nat}(h:j < n)(hn:n<=1000):j<=1000:=Nat.le_trans (Nat.le_of_lt h) hn
noncomputable def aa(n:Nat)(s:Sc):Sc:=n.rec s fun J r=> .a r
noncomputable def eI:Fn->Bool
 | .AU | .IM | .Cs | .CL | .Cn | .DG | .BA | .Du=>true
 | _=>false
noncomputable def bw:Fn->Option Nat
 | .Ao | .BO | .AZ | .CK=>some 0
 | .Bh=>some 3
 | _=>none
section
variable{α β τ υ σ ς:Type}{R:Ed σ ς}{rel:Ed τ α}{rel2:Ed υ β}{L L':List LC}{F:Fm}{w:Wd}{G:Nat->Af->Prop}{ρ:List Nat}
variable(Aa:List Int)
noncomputable def RF(oc:Fn->Option (Tr (List LV) LV))(d:Nat)(f:Fn):Tr (List LV) LV:=fun vs L sc K X=>bE (Nat.beq vs.length (prog f).params) (bE (prog f).dflt.isEmpty
 (PC (vs.map some++List.replicate ((prog f).vars - (prog f).params) none) fun env=>PC L fun L=>Ws Aa oc bw d (prog f).body env L sc (fun p L sc=>p.rec fun J o=>o.rec (K (sv .none) L sc) fun v=>K v L sc) X))
theorem KA{vs:List LV}{s:List V}(h:Rs (AF G ρ) vs s)(n:Nat):Rs (OV (AF G ρ)) (vs.map some++List.replicate n none) (s.map some++List.replicate n none):=by
 induction h with
 | nil=>exact .rep .no n
 | cons x _ ih=>exact .cons (.so x) ih
theorem sF{oc:Fn->Option (Tr (List LV) LV)}{d:Nat}(hoc:∀f k,oc f=some k->AV RA AF (HR Aa d f) k)(f:Fn):AV RA AF (HR Aa (d+1) f) (RF Aa oc d f):=fun vs L sc K X hK hX=>Hd fun hl=>Hd fun hd=>by
 have hd:(prog f).dflt=[]:=List.isEmpty_iff.mp hd
 have ev:∀{F:Fm} {w:Wd} {s:List V},RA (Gz F L w) w.ρ vs s->HR Aa (d+1) f s=bnd (Am (CS Aa d) (prog f).body (s.map some++List.replicate ((prog f).vars - (prog f).params) none)) fun p=>ret (p.2.getD .none):=fun hs=>K2 (hs.len.trans (Nat.eq_of_beq_eq_true hl)) hd
 refine Fj (Fj (Kz Aa oc bw d hoc (prog f).body _ L sc _ _ (fun p L' sc' h=> ?_) fun m L' sc' h=>hX _ _ _ (Sm.of ev fun F w s r hs=>(h F w _ r (KA hs _)).exc)))
 obtain⟨p1,p2⟩:=p
 have go:∀{v:LV},(∀{G ρ o},OR (AF G ρ) p2 o->AF G ρ v (o.getD .none))->K v L' sc':=fun hv=>hK _ _ _ (Sm.of ev fun F w s r hs=>(h F w _ r (KA hs _)).bnd fun w1 q n z=> .same n.r rfl (hv z.2))
 cases p2 with
 | none=>exact go fun h=>by cases h;exact .s
 | some v=>exact go fun h=>by cases h with | so q=>exact q
noncomputable def OC(d:Nat):Fn->Option (Tr (List LV) LV):=d.rec (fun J=>none) fun d ih f=>(eI f).rec none (some (RF Aa ih d f))
theorem HH:∀(d:Nat) (f:Fn) (k:Tr (List LV) LV),OC Aa d f=some k->AV RA AF (HR Aa d f) k
 | 0,_,_,h=>by cases h
 | d+1,f,k,h=>by
  have h:(eI f).rec none (some (RF Aa (OC Aa d) d f))=some k:=h
  cases e:eI f with
  | false=>rw[e]at h;cases h
  | true=>rw[e]at h;cases h;exact sF Aa (HH d) f
noncomputable def Pe(n:Nat)(L:List LC)(k:List LC->Prop):Prop:=bE ((L.take n).all (LC.lo n)) (bE ((L.drop n).all fun c=> !c.bor) (k (L.take n)))
theorem GX{n:Nat}{k:List LC->Prop}(h:(L.take n).all (LC.lo n)=true->(L.drop n).all (fun c=> !c.bor)=true->k (L.take n)):Pe n L k:=Hd fun a=>Hd fun b=>h a b
theorem Im{L1:List LC}{w1:Wd}(n:Nx F L w L1 w1)(r:Rl F L w)(h1:(L1.take L.length).all (LC.lo L.length)=true)(h2:(L1.drop L.length).all (fun c=> !c.bor)=true):Nx F L w (L1.take L.length) ⟨w1.ρ.take L.length,w1.H⟩/\Le (Gz F L1 w1) (Gz F (L1.take L.length) ⟨w1.ρ.take L.length,w1.H⟩):=
 let⟨r2,l⟩:=Oq n.r h1 h2
 ⟨⟨r2,(by
  obtain⟨t,e⟩:=n.p
  show w.ρ <+:w1.ρ.take L.length
  rw[<-e,<-r.len,List.take_left];exact List.prefix_refl _),fun a c h=>l a c (n.l a c h)⟩,l⟩
theorem Sm.fin{m:ς->M V}{x:σ}{v:LV}{t:TV}{L1 L2:List LC}(h:Sm R AF m x L (.ok v L1))(hf:fz L1 v=some (t,L2))(h1:(L2.take L.length).all (LC.lo L.length)=true)(h2:(L2.drop L.length).all (fun c=> !c.bor)=true):Sm R RT m x L (.ok t (L2.take L.length)):=fun F w s r hs=>
 let⟨a,w1,e,n,q⟩:=h F w s r hs
 let⟨n2,z⟩:=GQ n.r q hf
 let⟨n3,l⟩:=Im (n.trans n2) r h1 h2
 ⟨a,⟨w1.ρ.take L.length,w1.H⟩,e,n3,FR.mono l z⟩
theorem Sm.finX{m:ς->M α}{x:σ}{i:Nat}{L1:List LC}(h:Sm R rel m x L (.exc i L1))(h1:(L1.take L.length).all (LC.lo L.length)=true)(h2:(L1.drop L.length).all (fun c=> !c.bor)=true){rel':Ed υ α}:Sm R rel' m x L (.exc i (L1.take L.length)):=fun F w s r hs=>
 let⟨w1,e,n⟩:=h F w s r hs
 ⟨⟨w1.ρ.take L.length,w1.H⟩,e,(Im n r h1 h2).1⟩
noncomputable abbrev Xe(L:List LC)(k:TV->List LC->Prop)(v:LV)(L1:List LC):Prop:=X9 L1 v fun t L2=>Pe L.length L2 fun L3=>k t L3
noncomputable abbrev RG(d:Nat)(f:Fn)(args:List LV)(L:List LC)(sc:Sc):Prop:=RF Aa (OC Aa d) d f args L sc (fun v L1 J=>Xe L (fun t L2=>TR Aa (d+1) f args L (.ok t L2)) v L1) fun m L1 J=>Pe L.length L1 fun L2=>TR Aa (d+1) f args L (.exc m L2)
theorem QF{Aa:List Int}{d:Nat}{f:Fn}{args:List LV}{L:List LC}{out:Oc TV}(sc:Sc)(h:RG Aa d f args L sc->TR Aa (d+1) f args L out):TR Aa (d+1) f args L out:=
 h (sF Aa (HH Aa d) f args L sc _ _ (fun v L1 J h=>Ax fun p hp=>GX fun h1 h2=>h.fin hp h1 h2) fun m L1 J h=>GX fun h1 h2=>h.finX h1 h2)
noncomputable abbrev TS(d:Nat)(b:List (MS Fn))(env:AA)(L:List LC)(out:Oc (AA×Option LV)):Prop:=Sm RV HG (Am (CS Aa d) b) env L out
noncomputable abbrev hS(d:Nat)(b:List (MS Fn))(env:AA)(L:List LC)(sc:Sc):Prop:=PC env fun e1=>PC L fun L1=>Ws Aa (OC Aa d) bw d b e1 L1 sc (fun p L1 J=>TS Aa d b env L (.ok p L1)) fun m L1 J=>TS Aa d b env L (.exc m L1)
theorem QS{Aa:List Int}{d:Nat}{b:List (MS Fn)}{env:AA}{L:List LC}{out:Oc (AA×Option LV)}(sc:Sc)(h:hS Aa d b env L sc->TS Aa d b env L out):TS Aa d b env L out:=
 h (Fj (Fj (Kz Aa _ bw d (HH Aa d) b env L sc _ _ (fun J J J h=>h) fun J J J h=>h)))
noncomputable abbrev TM(d:Nat)(e:ME Fn)(env:AA)(L:List LC)(out:Oc (Option TV)):Prop:=Sm RV RO (Ww Aa d e) env L out
noncomputable abbrev hZ(d:Nat)(e:ME Fn)(env:AA)(L:List LC)(sc:Sc):Prop:=RE Aa (OC Aa d) bw d e env L sc (fun v L1 J=>Xe L (fun t L2=>TM Aa d e env L (.ok (some t) L2)) v L1) fun J J J=>True
theorem QM{Aa:List Int}{d:Nat}{e:ME Fn}{env:AA}{L:List LC}{out:Oc (Option TV)}(sc:Sc)(h:hZ Aa d e env L sc->TM Aa d e env L out):TM Aa d e env L out:=
 h (Mw Aa _ bw d (HH Aa d) e env L sc _ _ (fun v L1 J h=>Ax fun p hp=>GX fun h1 h2 F w s r hs=>((h.fin hp h1 h2) F w s r hs).bnd fun w1 a n q=> .same n.r rfl (.so q)) fun J J J J=>trivial)
noncomputable abbrev TI(d:Nat)(e c:ME Fn)(env:AA)(L:List LC)(out:Oc (Option TV)):Prop:=Sm RV RO (bA Aa d e c) env L out
noncomputable abbrev gZ(d:Nat)(e c:ME Fn)(env:AA)(L:List LC)(sc:Sc):Prop:=RE Aa (OC Aa d) bw d c env L sc (fun v L1 sc=>oE v.b? fun b=>b.rec (Pe L.length L1 fun L2=>TI Aa d e c env L (.ok none L2)) (RE Aa (OC Aa d) bw d e env L1 sc (fun v L1 J=>Xe L (fun t L2=>TI Aa d e c env L (.ok (some t) L2)) v L1) fun J J J=>True)) fun J J J=>True
theorem QI{Aa:List Int}{d:Nat}{e c:ME Fn}{env:AA}{L:List LC}{out:Oc (Option TV)}(sc:Sc)(h:gZ Aa d e c env L sc->TI Aa d e c env L out):TI Aa d e c env L out:=
 h (Mw Aa _ bw d (HH Aa d) c env L sc _ _ (fun v L1 sc h=>Ax fun b hb=>by
  cases b with
  | false=>
   exact GX fun h1 h2 F w s r hs=>by
    obtain⟨a,w1,e1,n,q⟩:=h F w s r hs
    cases Sw hb q
    exact⟨none,⟨w1.ρ.take L.length,w1.H⟩,(Av e1).trans rfl,(Im n r h1 h2).1,.no⟩
  | true=>
   exact Mw Aa _ bw d (HH Aa d) e env L1 sc _ _ (fun v L2 J g=>Ax fun p hp=>GX fun h1 h2 F w s r hs=>by
    obtain⟨a,w1,e1,n,q⟩:=h F w s r hs
    cases Sw hb q
    obtain⟨a,w2,e2,n2,q2⟩:=g F w1 s n.r (AI n.l n.p hs)
    obtain⟨n3,z⟩:=GQ n2.r q2 hp
    obtain⟨n4,l⟩:=Im ((n.trans n2).trans n3) r h1 h2
    exact⟨some a,⟨w2.ρ.take L.length,w2.H⟩,(Av e1).trans ((Av e2).trans rfl),n4,.so (FR.mono l z)⟩) fun J J J J=>trivial) fun J J J J=>trivial)
theorem Fo{m:Mine.Env->M (Option V)}{env:AA}{L:List LC}{c:TV->TV}:∀{xs:List TV},(∀x ∈ xs,Sm RV RO m (env++[some (.f x)]) L (.ok (some (c x)) L))->Fg m env xs L (xs.map c) L
 | [],_=> .nil
 | x::xs,h=> .cons (h x (.head _)) (Fo fun y hy=>h y (.tail _ hy))
theorem Rs.hide{α β:Type}{R:α->β->Prop}{as:List α}{bs:List β}(h:Rs R as bs){a:α}(q:∀b,R a b):∀i,Rs R (as.set i a) bs:=by
 induction h with
 | nil=>intro i;exact .nil
 | cons x y ih=>intro i;cases i with
  | zero=>exact .cons (q _) y
  | succ i=>exact .cons x (ih i)
theorem WJ{G':Nat->Af->Prop}(l:Le G G'){n:Nat}{env:AA}{s:Mine.Env}(h:RV G ρ env s):env.all (fun o=>o.rec true (LV.lo n))=true->RV G' (ρ.take n) env s:=by
 induction h with
 | nil=>exact fun J=> .nil
 | @cons o v env s hx _ ih=>
  intro e
  rw[List.all_cons,PQ]at e
  refine .cons ?_ (ih e.2)
  cases hx with
  | no=>exact .no
  | @so a b q=>
   refine .so ?_
   have e1:LV.lo n a=true:=e.1
   cases a with
   | f t=>exact FR.mono l q
   | r i=>exact let⟨a,e2,e3⟩:=q;⟨a,by rw[List.getElem?_take,if_pos (Nat.blt_eq.mp e1)];exact e2,e3⟩
theorem TS.cut{d:Nat}{b:List (MS Fn)}{env env1:AA}{L1:List LC}(i n:Nat)(h:TS Aa d b env L (.ok (env1,none) L1))(h1:(L1.take n).all (LC.lo n)=true)(h2:(L1.drop n).all (fun c=> !c.bor)=true)(h3:(env1.set i none).all (fun o=>o.rec true (LV.lo n))=true)(hn:L.length<=n):TS Aa d b env L (.ok (env1.set i none,none) (L1.take n)):=fun F w s r hs=>
 let⟨p,w1,e,n1,q⟩:=h F w s r hs
 let⟨r2,l⟩:=Oq n1.r h1 h2
 ⟨p,⟨w1.ρ.take n,w1.H⟩,e,⟨r2,(by
  obtain⟨t,e⟩:=n1.p
  show w.ρ <+:w1.ρ.take n
  rw[<-e,List.take_append,List.take_of_length_le (by rw[r.len];exact hn)]
  exact List.prefix_append ..),fun a c h=>l a c (n1.l a c h)⟩,WJ l (q.1.hide (fun J=> .no) i) h3,by
   have q2:=q.2
   obtain⟨p1,p2⟩:=p
   cases q2;exact .no⟩
theorem T5{d:Nat}{f:Fn}{b:Bool}(h:TR Aa d f [sv .ext] [] (.ok (.s (.bool b)) [])):∃H',DY prog Aa F7 initOf d f [.ext] [.tab]=.ok (.bool b) H'/\H'[0]? =some .tab:=by
 have r:Rl ⟨fun J=>False,[.tab]⟩ [] ⟨[],[.tab]⟩:={ tab:=rfl,t0:=fun i h=>(by cases i<;>cases h),nd:=fun i j a h=>(by cases i<;>cases h),len:=rfl,lt:=fun i a h=>(by cases i<;>cases h),sF:=fun a h=>h.elim,le:=Nat.le_refl _,old:=fun a J J=>rfl,own:=fun i a c h=>(by cases i<;>cases h),cells:=fun i a c h=>(by cases i<;>cases h)}
 obtain⟨a,w,e,n,q⟩:=h _ _ [.ext] r (.cons .s .nil)
 cases q
 obtain⟨c,e1,h1⟩:=Ju n.r.tab
 refine⟨w.H,e,?_⟩
 cases c with
 | tab=>exact e1
 | inst k fs=>rcases GB h1 with h | ⟨h,_⟩<;>cases h
 | _=>cases h1
end
noncomputable abbrev AD(k:Nat)(xs:List TV)(a:TV):TV:= .n (.ins .vector [0,1,2,4]) [.s (.w k),.n .lst xs,a,.s (.bool false)]
noncomputable abbrev FT:TV:= .n (.ins .null [0,2]) [.s (.w 6),.s .none]
noncomputable def D1:Option (List TV)->TV
 | none=> .s .none
 | some ns=> .n (.dct [5]) [AD 9 ns (.s .none)]
noncomputable def RK:Option (List TV)->TV
 | none=> .s .none
 | some ns=> .n .lst ns
noncomputable abbrev Ka(k:Nat):Prop:=k=8\/k=9
noncomputable abbrev Kv(k:Nat):Prop:=k=7\/Ka k
noncomputable def Dq(k:Nat):TV:=if k=7 then FT else .s .none
section
variable{Aa:List Int}{d k w:Nat}{xs:List TV}{ns:Option (List TV)}{a x:TV}
noncomputable abbrev Cj(Aa:List Int)(d:Nat)(f:Fn)(args:List TV)(t:TV):Prop:=TR Aa d f (args.map .f) [] (.ok t [])
noncomputable abbrev bN(Aa:List Int)(d:Nat)(f:Fn)(args:List TV)(m:Nat):Prop:=TR Aa d f (args.map .f) [] (.exc m [])
theorem Az:Cj Aa (d+1) .Ah [.s (.w k)] (.s (.bool ([7,19,20].contains k))):=QF .z fun h=>h
theorem Q7:Cj Aa (d+1) .Bb [.s (.w k)] (.s (.bool ([23,8,24,9].contains k))):=QF .z fun h=>h
theorem Gi:Cj Aa (d+1) .Ck [AD k xs a] (.s (.bool ([23,8,24,9].contains k))):=QF .z fun h=>h
theorem Cg:Cj Aa (d+1) .Bq [AD k xs a] (.s (.bool true)):=QF .z fun h=>h
theorem DJ{i:Int}(h:i<=1000000):Cj Aa (d+1) .DJ [.s (.int i)] (.s (.int i)):=QF (.c .z) fun q=>q (Int.not_lt.mpr h)
theorem Ny:Cj Aa (d+1) .B3 [AD k xs (.s .none),.s (.w w)] (.s .none):=QF .z fun h=>h
theorem L6{ns:List TV}:Cj Aa (d+1) .B3 [AD k xs (D1 (some ns)),.s (.w 5)] (AD 9 ns (.s .none)):=QF .z fun h=>h
theorem Py:Cj Aa (d+1) .B3 [AD k xs (D1 ns),.s (.w 25)] (.s .none):=by
 cases ns<;>exact QF .z fun h=>h
theorem C6:Cj Aa (d+2) .C6 [AD k xs (D1 ns)] (.s .none):=QF .z fun h=>h Py
theorem AO(hk:Kv k):Cj Aa (d+3) .AO [AD k xs (D1 ns)] (RK ns):=by
 rcases hk with rfl | rfl | rfl<;>cases ns with
 | none=>exact QF .z fun h=>h C6 Ny
 | some l=>exact QF .z fun h=>h C6 L6
theorem Cy:Cj Aa (d+2) .Bo [.n .lst xs] (AD 9 xs (.s .none)):=QF .z fun h=>h
theorem Rx(hk:Kv k):Cj Aa (d+2) .Bt [.s (.w k)] (Dq k):=by
 rcases hk with rfl | rfl | rfl<;>exact QF .z fun h=>h
theorem BJ:Cj Aa (d+1) .BJ [AD k xs a] (AD k xs a):=QF .z fun h=>h
theorem M9:Cj Aa (d+1) .CM [FT] (.s (.int 0)):=QF .z fun h=>h
theorem Md(hk:Kv k):Cj Aa (d+1) .CM [AD k xs a] (.s (.int xs.length)):=by
 rcases hk with rfl | rfl | rfl<;>exact QF .z fun h=>h
noncomputable def JM(x:TV):TV:=x.casesOn (fun v=>v.casesOn (.s .none) (fun J=>x) (fun i=> .s (.dec i)) (fun J=>x) (fun J=>x) (fun J=>x) x) (fun J J=>x) x
theorem NM{i:Int}{n:TV}(h0:0<=i)(h1:i<=100000):Cj Aa (d+2) .CZ [.s (.w 8),.s (.int i),.s (.w 9),n] (.s (.dec i)):=
 QF .z fun h=>h Q7 (QF .z fun h=>h h0 h1)
theorem Mu{n:TV}(hk:Ka k):Cj Aa (d+2) .CZ [.s (.w k),x,.s (.w 7),n] (AD k [x] (.s .none)):=by
 rcases hk with rfl | rfl<;>exact QF .z fun h=>h Q7 BJ
end
section
variable{Aa:List Int}{d k k' w:Nat}{xs:List TV}{ns:Option (List TV)}{a x n:TV}
theorem Ci{c:TV->TV}(hk:Kv k)(JK:k≠k')(h:∀x ∈ xs,Cj Aa (d+3) .CZ [.s (.w k),x,.s (.w k'),n] (c x)):Cj Aa (d+4) .Ci [AD k xs (D1 ns),.s (.w k'),n] (AD k' (xs.map c) (D1 ns)):=by
 cases ns with
 | none=>exact QF (.b .z) fun q=>q (G0 JK) (Fo fun x hx=>QM .z fun q=>q (h x hx)) (AO hk)
 | some l=>exact QF (.b .z) fun q=>q (G0 JK) (Fo fun x hx=>QM .z fun q=>q (h x hx)) (AO hk) Cy BJ
theorem CD(hk:Ka k):Cj Aa (d+5) .CD [AD k xs (D1 ns)] (AD 7 (xs.map fun x=>AD k [x] (.s .none)) (D1 ns)):=
 QF .z fun q=>q (Ci (.inr hk) (by exact fun e=>g8 ‹_› e (by decide)) fun x J=>Mu hk)
inductive Cv:Nat->Nat->List TV->List TV->Prop
 | same {k:Nat} {xs:List TV}:Kv k->Cv k k xs xs
 | list {k:Nat} {xs:List TV}:Ka k->Cv k 7 xs (xs.map fun x=>AD k [x] (.s .none))
 | dec {xs:List TV}:(∀x ∈ xs,∃i:Int,x=.s (.int i)/\0<=i/\i<=100000)->Cv 8 9 xs (xs.map JM)
theorem NH{ys:List TV}(h:Cv k k' xs ys):Cj Aa (d+6) .AP [AD k xs (D1 ns),.s (.w k'),n] (.n .lst ys):=by
 cases h with
 | same hk=>exact QF (.b .z) fun q=>q (congrArg some (beq_self_eq_true k))
 | list hk=>
  rcases hk with rfl | rfl
  .exact QF .z fun q=>q Az Az (CD (.inl rfl))
  .exact QF .z fun q=>q Az Az (CD (.inr rfl))
 | dec h=>exact QF .z fun q=>q Az Az (Ci (.inr (.inl rfl)) (by decide) fun x hx=>by
   obtain⟨i,rfl,h0,h1⟩:=h x hx
   exact NM h0 h1)
end
noncomputable def wT(x:TV):Option Nat:=x.casesOn Vw (fun J J=>none) none
noncomputable def Ma:List TV->Nat->List (Nat×TV)->List (Nat×TV)
 | [],_,kvs=>kvs
 | x::xs,i,kvs=>match wT x with
  | some k=>if ¬k=16/\look k kvs=none then Ma xs (i+1) (put k (.s (.int i)) kvs)else Ma xs (i+1) kvs
  | none=>Ma xs (i+1) kvs
theorem Qz{j i:Nat}{xs:List TV}{kvs:List (Nat×TV)}:Ma (.s (.w j)::xs) i kvs=if ¬j=16/\look j kvs=none then Ma xs (i+1) (put j (.s (.int i)) kvs)else Ma xs (i+1) kvs:=rfl
noncomputable abbrev UI(kvs:List (Nat×TV)):TV:= .n (.dct (kvs.map (·.1))) (kvs.map (·.2))
noncomputable abbrev IE(i n:Nat):List TV:=(List.range' i n).map fun(k:Nat)=> .s (.int (k:Int))
theorem Mz{n:Nat}:D9 0 (n:Int)=IE 0 n:=by
 unfold D9 BV IE
 rw[List.map_map,<-List.range_eq_range']
 simp[Function.comp_def]
theorem E1{B:Mine.Env->M (Mine.Env×Option V)}{i n:Nat}{env:AA}{L:List LC}{out:Oc (AA×Option LV)}(h:DL B i (IE 0 n) env L out):DL B i (D9 0 (n:Int)) env L out:=Mz▸h
theorem Lv{k:Nat}:∀{l:List (Nat×TV)},look k ((l.map (·.1)).zip (l.map (·.2)))=look k l
 | []=>rfl
 | p::r=>congrArg (fun x=>if p.1=k then some p.2 else x) (Lv (l:=r))
theorem MD{k j:Nat}{v:TV}:∀{kvs:List (Nat×TV)},look k (put j v kvs)=if j=k then some v else look k kvs
 | []=>rfl
 | p::r=>by
  have e:∀s:List (Nat×TV),look k (p::s)=if p.1=k then some p.2 else look k s:=fun J=>rfl
  unfold put
  by_cases h:p.1=j
  .rw [if_pos h,e]
   show(if j=k then some v else look k r)=_
   by_cases q:j=k
   .rw [if_pos q,if_pos q]
   .rw [if_neg q,if_neg q,if_neg (by exact fun e=>q (Eq.trans (Eq.symm ‹_›) e))]
  .rw [if_neg h,e,e,MD]
   by_cases q:p.1=k
   .rw [if_pos q,if_pos q,if_neg (by exact fun e=>f7 (h:=‹_›) ‹_› e)]
   .rw [if_neg q,if_neg q]
theorem No{k j:Nat}:DM k (.s (.w j))=decide (j=k):=by
 show decide (V.w j=.w k)=_
 by_cases h:j=k
 .rw [h,decide_eq_true rfl,decide_eq_true rfl]
 .rw [decide_eq_false h,decide_eq_false fun q=>h (V.w.inj q)]
theorem YB{k:Nat}:∀{x:TV},wT x=none->DM k x=false
 | .s v,h=>by cases v<;>first | rfl | cases h
 | .n _ _,_=>rfl
 | .u,_=>rfl
theorem UU{k:Nat}:∀{x:TV},wT x=some k->x=.s (.w k)
 | .s v,h=>by cases v<;>cases h<;>rfl
 | .n _ _,h=>by cases h
 | .u,h=>by cases h
theorem MW{k:Nat}:∀{xs:List TV} {i:Nat} {kvs:List (Nat×TV)},look k (Ma xs i kvs)=match look k kvs with
  | some v=>some v
  | none=>if k=16 then none else(xs.findIdx? (DM k)).map fun j=> .s (.int ((i+j:Nat):Int))
 | [],i,kvs=>by
  show look k kvs=_
  cases look k kvs with
  | none=>simp
  | some v=>rfl
 | x::xs,i,kvs=>by
  have ih:=fun kvs=>MW (k:=k) (xs:=xs) (i:=i+1) (kvs:=kvs)
  have step:∀(b:Bool),DM k x=b->(List.findIdx? (DM k) (x::xs)).map (fun j=>TV.s (.int ((i+j:Nat):Int)))=if b=true then some (.s (.int i))else(xs.findIdx? (DM k)).map fun j=> .s (.int ((i+1+j:Nat):Int)):=by
   intro b hb
   rw[List.findIdx?_cons,hb]
   cases b
   .simp only [Bool.false_eq_true,if_false,Option.map_map]
    congr 1
    funext j
    simp only [Function.comp,Nat.add_assoc,Nat.add_comm 1]
   .rfl
  unfold Ma
  cases hx:wT x with
  | none=>rw[step false (YB hx)];exact ih kvs
  | some j=>
   cases UU hx
   dsimp only
   by_cases hc:¬j=16/\look j kvs=none
   .rw [if_pos hc,ih,MD]
    by_cases q:j=k
    .subst q
     rw[step true (by rw[No,decide_eq_true rfl]),if_pos rfl,hc.2,if_pos rfl]
     exact(if_neg hc.1).symm
    .rw [if_neg q,step false (by rw[No,decide_eq_false q])]
     simp
   .rw [if_neg hc,ih]
    by_cases q:j=k
    .subst q
     cases h:look j kvs with
     | some v=>rfl
     | none=>
      have:j=16:=Classical.byContradiction fun h16=>hc ⟨h16,h⟩
      simp[this]
    .rw [step false (by rw[No,decide_eq_false q])]
     simp
theorem Y9{k:Nat}{ns:List TV}:look k (((Ma ns 0 []).map (·.1)).zip ((Ma ns 0 []).map (·.2)))=if k=16 then none else(ns.findIdx? (DM k)).map fun j=> .s (.int (j:Int)):=by
 rw[Lv,MW]
 show(if k=16 then none else _)=_
 simp only [Nat.zero_add]
noncomputable def Ee(x:TV):Bool:=x.casesOn (fun v=>v.casesOn true (fun J=>false) (fun J=>false) (fun j=>decide (12<=j/\j < 18)) (fun J=>false) (fun J=>false) false) (fun J J=>false) false
theorem Iw{x:TV}(h:Ee x=true):x=.s .none\/∃j,x=.s (.w j)/\12<=j/\j < 18:=by
 cases x with
 | n=>cases h
 | u=>cases h
 | s v=>cases v with
  | none=>exact .inl rfl
  | w j=>exact .inr ⟨j,rfl,of_decide_eq_true h⟩
  | _=>cases h
section
variable{Aa:List Int}{d k k' w:Nat}{xs:List TV}{ns:Option (List TV)}{a x n:TV}
noncomputable abbrev cB:List (MS Fn):=[.asg 3 (.idx (.O 0) (.O 2)),.ifs (.and2 (.isNone true (.O 3)) (.and2 (.cmp .ne (.O 3) (.cst (.w 16))) (.cmp .notin (.O 3) (.O 1)))) [.setI (.O 1) (.O 3) (.O 2)] []]
theorem O5{ns:List TV}(ha:ns.all Ee=true)(hl:ns.length<=80):∀(xs done:List TV) (kvs:List (Nat×TV)) (e2 e3:Option LV),ns=done++xs->kvs.length<=done.length->
  ∃e2' e3',DL (Am (CS Aa d) cB) 2 (IE done.length xs.length) [some (.f (.n .lst ns)),some (.r 0),e2,e3] [.dct kvs] (.ok ([some (.f (.n .lst ns)),some (.r 0),e2',e3'],none) [.dct (Ma xs done.length kvs)])
 | [],done,kvs,e2,e3,_,_=>⟨e2,e3,.nil⟩
 | x::xs,done,kvs,e2,e3,e,hk=>by
  have hx:ns[done.length]? =some x:=by rw[e,List.getElem?_append_right (Nat.le_refl _),Nat.sub_self];rfl
  have hd:done.length < 80:=by rw[e,C1,List.length_cons]at hl;exact qR ‹_›
  have hm:Ee x=true:=List.all_eq_true.mp ha x (List.mem_of_getElem? hx)
  have go:=fun kvs' (hk2:kvs'.length<=done.length+1)=>O5 ha hl xs (done++[x]) kvs' (some (il done.length)) (some (.f x)) (by rw[e,List.append_assoc];rfl) (by rw[C1];exact hk2)
  rw[C1]at go
  have one:∀kvs',kvs'.length<=done.length+1->Ma (x::xs) done.length kvs=Ma xs (done.length+1) kvs'->TS Aa d cB [some (.f (.n .lst ns)),some (.r 0),some (il done.length),e3] [.dct kvs] (.ok ([some (.f (.n .lst ns)),some (.r 0),some (il done.length),some (.f x)],none) [.dct kvs'])->∃e2' e3',DL (Am (CS Aa d) cB) 2 (IE done.length (x::xs).length) [some (.f (.n .lst ns)),some (.r 0),e2,e3] [.dct kvs] (.ok ([some (.f (.n .lst ns)),some (.r 0),e2',e3'],none) [.dct (Ma (x::xs) done.length kvs)]):=fun kvs' h1 h2 h3=>by
   obtain⟨a,b,g⟩:=go kvs' h1
   rw[h2]
   exact⟨a,b,.next h3 g⟩
  rcases Iw hm with rfl | ⟨j,rfl,_⟩
  .exact one kvs (by exact Nat.le_succ_of_le ‹_›) rfl (QS (.b .z) fun q=>q hx)
  by_cases h16:j=16
  .subst h16
   exact one kvs (by exact Nat.le_succ_of_le ‹_›) (Qz.trans (if_neg fun h=>h.1 rfl)) (QS (.b .z) fun q=>q hx)
  .cases hlk:look j kvs with
   | none=>exact one _ (Nat.le_trans HU (by exact Nat.succ_le_succ ‹_›)) (Qz.trans (if_pos ⟨h16,hlk⟩)) (QS (.b (.a (.b (.c .z)))) fun q=>q hx (G0 h16) (by rw[hlk];rfl) (by exact(show kvs.length < 90 by exact Nat.lt_of_le_of_lt ‹_› (zz ‹_› (by rfl)))))
   | some v=>exact one kvs (by exact Nat.le_succ_of_le ‹_›) (Qz.trans (if_neg fun h=>by rw[hlk]at h;cases h.2)) (QS (.b (.a (.b (.b .z)))) fun q=>q hx (G0 h16) (by rw[hlk];rfl))
theorem KU:Cj Aa (d+1) .A7 [.s .none] (UI []):=QF .z fun q=>q
theorem KF{ns:List TV}(ha:ns.all Ee=true)(hl:ns.length<=80):Cj Aa (d+1) .A7 [.n .lst ns] (UI (Ma ns 0 [])):=by
 obtain⟨e2,e3,g⟩:=O5 (Aa:=Aa) (d:=d) ha hl ns [] [] none none rfl (Nat.le_refl _)
 exact QF .z fun q=>q rfl (by exact zz ‹_› (by rfl)) (E1 g)
end
noncomputable def bG(k:Nat)(x:TV):Bool:=(wT x).rec false fun j=>KK.contains (j,k)
noncomputable def Qi(k:Nat):List TV->Nat->List Nat
 | [],_=>[]
 | x::xs,i=>if bG k x then i::Qi k xs (i+1)else Qi k xs (i+1)
inductive Pl where | na | no | at (n:Nat)
noncomputable def Pl.ctorIdx(x:Pl):Nat:= @Pl.casesOn (fun J=>Nat) x 0 1 (fun J=>2)
noncomputable abbrev cQ:TV:= .s (.int (-((1:Nat):Int)))
noncomputable def Pl.t:Pl->TV
 | .na=> .s .none
 | .no=>cQ
 | .at n=> .s (.int (n:Int))
noncomputable def only:List Nat->Pl
 | [j]=> .at j
 | _=> .no
noncomputable def E7(ns:Option (List TV))(k:Nat)(exact:Bool):Pl:=match ns with
 | none=> .no
 | some xs=>if k=16 then .no else match xs.findIdx? (DM k)with
  | some i=> .at i
  | none=>if exact then .no else only (Qi k xs 0)
section
variable{l:List TV}{k i:Nat}{e:Bool}
theorem Gn(h:¬k=16)(hx:l.findIdx? (DM k)=some i):E7 (some l) k e=.at i:=by
 unfold E7;dsimp only;rw[if_neg h,hx]
theorem GD(h:¬k=16)(hx:l.findIdx? (DM k)=none):E7 (some l) k e=if e then .no else only (Qi k l 0):=by
 unfold E7;dsimp only;rw[if_neg h,hx]
end
theorem Ig{j k:Nat}(hj:12<=j/\j < 18)(hk:12<=k/\k < 18):F7 j k=some (KK.contains (j,k)):=if_pos ⟨hj.1,hj.2,hk.1,hk.2⟩
section
variable{Aa:List Int}{d k k' w:Nat}{xs:List TV}{ns:Option (List TV)}{a x n:TV}
noncomputable abbrev fS:List (MS Fn):=[.ifs (.and2 (.isNone true (.idx (.O 1) (.O 4))) (.starts (.idx (.O 1) (.O 4)) (.O 0))) [.ifs (.cmp .ge (.O 3) (.cst (.int 0))) [.ret (.usub 1)] [],.asg 3 (.O 4)] []]
noncomputable def bK:Option Nat->Pl
 | none=> .no
 | some j=> .at j
theorem OS{ns:List TV}{e2:Option LV}(hk:12<=k/\k < 18)(ha:ns.all Ee=true)(hl:ns.length<=80):∀(xs done:List TV) (p:Option Nat) (e4:Option LV),ns=done++xs->
  ∃e3' e4' fl,DL (Am (CS Aa d) fS) 4 (IE done.length xs.length) [some (sv (.w k)),some (.f (.n .lst ns)),e2,some (.f (bK p).t),e4] [] (.ok ([some (sv (.w k)),some (.f (.n .lst ns)),e2,some e3',e4'],fl) [])/\fl.getD e3'=.f (match p,Qi k xs done.length with | none,l=>(only l).t | some j,[]=>(Pl.at j).t | some _,_=>cQ)
 | [],done,p,e4,_=>⟨.f (bK p).t,e4,none,.nil,by cases p<;>rfl⟩
 | x::xs,done,p,e4,e=>by
  have hx:ns[done.length]? =some x:=by rw[e,List.getElem?_append_right (Nat.le_refl _),Nat.sub_self];rfl
  have hm:Ee x=true:=List.all_eq_true.mp ha x (List.mem_of_getElem? hx)
  have go:=fun p'=>OS (e2:=e2) hk ha hl xs (done++[x]) p' (some (il done.length)) (by rw[e,List.append_assoc];rfl)
  rw[C1]at go
  have skip:bG k x=false->TS Aa d fS [some (sv (.w k)),some (.f (.n .lst ns)),e2,some (.f (bK p).t),some (il done.length)] [] (.ok ([some (sv (.w k)),some (.f (.n .lst ns)),e2,some (.f (bK p).t),some (il done.length)],none) []):=fun hb=>by
   rcases Iw hm with rfl | ⟨j,rfl,hj⟩
   .exact QS (.b .z) fun q=>q hx
   .exact QS (.b (.a (.b (.b .z)))) fun q=>q hx hx ((Ig hj hk).trans (congrArg some hb))
  unfold Qi
  by_cases hb:bG k x=true
  .rw [if_pos hb]
   rcases Iw hm with rfl | ⟨j,rfl,hj⟩
   .cases hb
   have hbg:=(Ig hj hk).trans (congrArg some hb)
   cases p with
   | none=>
    obtain⟨e3',e4',fl,g1,g2⟩:=go (some done.length)
    exact⟨e3',e4',fl,.next (QS (.b (.a (.b (.b .z)))) fun q=>q hx hx hbg) g1,g2.trans (by cases Qi k xs (done.length+1)<;>rfl)⟩
   | some i=>exact⟨_,_,_,.ret (QS (.b (.a (.b (.b (.b .z))))) fun q=>q hx hx hbg (Int.natCast_nonneg i)),rfl⟩
  .rw [if_neg hb]
   obtain⟨e3',e4',fl,g1,g2⟩:=go p
   exact⟨e3',e4',fl,.next (skip (Bool.not_eq_true _▸hb)) g1,g2⟩
theorem Hr{ns:List TV}(h:ns.all Ee=true):ns.all Ui=true:=List.all_eq_true.mpr fun x hx=>by
 rcases Iw (List.all_eq_true.mp h x hx)with rfl | ⟨j,rfl,_⟩<;>rfl
noncomputable def FN(ns:Option (List TV)):Prop:=∀l,ns=some l->l.all Ee=true/\l.length<=80
theorem Ow(h:FN ns):Cj Aa (d+1) .A7 [RK ns] (UI (Ma (ns.getD []) 0 [])):=by
 cases ns with
 | none=>exact KU
 | some l=>exact KF (h l rfl).1 (h l rfl).2
theorem P9(hk:12<=k/\k < 18)(h:FN ns):Cj Aa (d+2) .Bz [.s (.w k),RK ns] (E7 ns k false).t:=by
 have f0:=Ow (Aa:=Aa) (d:=d) h
 have hf:=Y9 (k:=k) (ns:=ns.getD [])
 cases ns with
 | none=>exact QF .z fun q=>q f0
 | some l=>
  obtain⟨h1,h2⟩:=h l rfl
  dsimp only [Option.getD]at hf
  by_cases h16:k=16
  .subst h16
   rw[if_pos rfl]at hf
   exact QF (.a (.c .z)) fun q=>q f0 (congrArg Option.isSome hf)
  .rw [if_neg h16]at hf
   cases hx:l.findIdx? (DM k)with
   | some i=>
    rw[hx]at hf
    rw[Gn h16 hx]
    exact QF (.a (.b (.b .z))) fun q=>q f0 (congrArg Option.isSome hf) hf
   | none=>
    rw[hx]at hf
    rw[GD h16 hx]
    obtain⟨e3,e4,fl,g,e⟩:=OS (Aa:=Aa) (d:=d+1) (e2:=some (.f (UI (Ma l 0 [])))) hk h1 h2 l [] none none rfl
    cases fl with
    | none=>cases e;exact QF (.a (.c (.a (.b .z)))) fun q=>q f0 (congrArg Option.isSome hf) (G0 h16) rfl (by exact zz ‹_› (by rfl)) (E1 g)
    | some v=>cases e;exact QF (.a (.c (.a (.b .z)))) fun q=>q f0 (congrArg Option.isSome hf) (G0 h16) rfl (by exact zz ‹_› (by rfl)) (E1 g)
theorem Cw{exact:Bool}(hk:12<=k/\k < 18)(h:FN ns):Cj Aa (d+3) .Cw [.s (.w k),RK ns,.s (.bool exact)] (E7 ns k exact).t:=by
 cases exact with
 | false=>exact QF .z fun q=>q (P9 hk h)
 | true=>
  have f0:=Ow (Aa:=Aa) (d:=d+1) h
  have hf:=Y9 (k:=k) (ns:=ns.getD [])
  cases ns with
  | none=>exact QF .z fun q=>q f0
  | some l=>
   dsimp only [Option.getD]at hf
   by_cases h16:k=16
   .subst h16
    rw[if_pos rfl]at hf
    exact QF (.a (.a (.c .z))) fun q=>q f0 hf
   .rw [if_neg h16]at hf
    cases hx:l.findIdx? (DM k)with
    | some i=>
     rw[hx]at hf
     rw[Gn h16 hx]
     exact QF (.a (.a (.b .z))) fun q=>q f0 hf
    | none=>
     rw[hx]at hf
     rw[GD h16 hx]
     exact QF (.a (.a (.c .z))) fun q=>q f0 hf
inductive Em where | na | num (i:Nat) | nm (k:Nat)
noncomputable def Em.ctorIdx(x:Em):Nat:= @Em.casesOn (fun J=>Nat) x 0 (fun J=>1) (fun J=>2)
noncomputable def Bj:Em->TV
 | .na=>AD 8 [.s .none] (.s .none)
 | .num i=>AD 8 [.s (.int (i:Int))] (.s .none)
 | .nm k=>AD 9 [.s (.w k)] (.s .none)
noncomputable def CJ:Em->Prop
 | .nm k=>12<=k/\k < 18
 | _=>True
noncomputable def AR(ns:Option (List TV))(exact:Bool):Em->Except Nat Pl
 | .na=> .ok .na
 | .num 0=> .error 26
 | .num (i+1)=> .ok (.at i)
 | .nm k=> .ok (E7 ns k exact)
noncomputable abbrev FP(Aa:List Int)(d:Nat)(f:Fn)(args:List TV)(r:Except Nat TV):Prop:=TR Aa d f (args.map .f) [] (match r with | .ok t=> .ok t [] | .error m=> .exc m [])
theorem Bs{exact:Bool}{key:Em}(A3:CJ key)(h:FN ns):FP Aa (d+4) .Bs [Bj key,a,RK ns,.s (.bool exact)] ((AR ns exact key).map Pl.t):=by
 cases key with
 | na=>exact QF .z fun q=>q (QF .z fun q=>q) (QF .z fun q=>q)
 | nm k=>exact QF .z fun q=>q (Cw A3 h)
 | num i=>
  cases i with
  | zero=>exact QF (.a (.a (.a (.a (.a (.a (.a (.a (.b .z))))))))) fun q=>q (QF .z fun q=>q) (QF (.a (.c .z)) fun q=>q (by decide))
  | succ i=>
   have e:((i+1:Nat):Int) - 1=(i:Int):=by exact qL
   have h:Cj Aa (d+3) .CQ [.s (.int ((i+1:Nat):Int)),a] (.s (.int (((i+1:Nat):Int) - 1))):=QF (.a (.b .z)) fun q=>q (by exact qG (Nat.succ_pos _))
   rw[e]at h
   exact QF .z fun q=>q (QF .z fun q=>q) h
end
noncomputable def OW(k:Nat)(x:TV):TV:=if k=7 then x else AD k [x] (.s .none)
noncomputable def EI(k:Nat)(xs:List TV):Pl->Except Nat TV
 | .na=> .ok (if k=7 then FT else AD k [.s .none] (.s .none))
 | .no=>if k=7 then .ok FT else .error 28
 | .at n=>match xs[n]? with
  | none=> .error 28
  | some x=> .ok (OW k x)
noncomputable def Kh(k:Nat)(xs:List TV)(ns:Option (List TV))(key:Em)(exact:Bool):Except Nat TV:=(AR ns exact key).bind (EI k xs)
section
variable{Aa:List Int}{d k k' w:Nat}{xs:List TV}{ns:Option (List TV)}{a x n:TV}
theorem Cq(hk:Kv k){i:Nat}(h:xs[i]? =some x):Cj Aa (d+3) .Cq [AD k xs a,.s (.int (i:Int))] (OW k x):=by
 rcases hk with rfl | rfl | rfl
 .exact QF (.a (.b .z)) fun q=>q Az h
 .exact QF (.a (.b .z)) fun q=>q Az h
 .exact QF (.a (.b .z)) fun q=>q Az h
theorem MN{exact:Bool}{key:Em}(hk:Kv k)(A3:CJ key)(h:FN ns):FP Aa (d+5) .AM [AD k xs (D1 ns),Bj key,.s (.bool exact)] (Kh k xs ns key exact):=by
 have e0:=AO (Aa:=Aa) (d:=d+1) (xs:=xs) (ns:=ns) hk
 have e1:=Bs (Aa:=Aa) (d:=d) (a:= .s (.int xs.length)) (exact:=exact) A3 h
 unfold Kh
 cases hp:AR ns exact key with
 | error e=>rw[hp]at e1;exact QF (.a (.b .z)) fun q=>q e0 e1
 | ok p=>
  rw[hp]at e1
  cases p with
  | na=>rcases hk with rfl | rfl | rfl<;>exact QF .z fun q=>q e0 e1 Az
  | no=>rcases hk with rfl | rfl | rfl<;>exact QF .z fun q=>q e0 e1 Az
  | «at» i=>
   have h0:¬((i:Nat):Int) < 0:=Int.not_lt.mpr (Int.natCast_nonneg i)
   cases hx:xs[i]? with
   | none=>
    have h1:(xs.length:Int)<=(i:Int):=Int.ofNat_le.mpr (List.getElem?_eq_none_iff.mp hx)
    have e:(EI k xs (.at i))=.error 28:=by unfold EI;dsimp only;rw[hx]
    have g:bN Aa (d+5) .AM [AD k xs (D1 ns),Bj key,.s (.bool exact)] 28:=QF (.a (.a (.a (.c (.c (.b .z)))))) fun q=>q e0 e1 h0 h0 h1
    show FP _ _ _ _ (EI k xs (.at i))
    rw[e];exact g
   | some x=>
    have h1:¬(xs.length:Int)<=(i:Int):=fun q=>absurd (Ew.mp hx).1 (Nat.not_lt.mpr (Int.ofNat_le.mp q))
    have e:(EI k xs (.at i))=.ok (OW k x):=by unfold EI;dsimp only;rw[hx]
    have g:Cj Aa (d+5) .AM [AD k xs (D1 ns),Bj key,.s (.bool exact)] (OW k x):=QF (.a (.a (.a (.c (.c (.c .z)))))) fun q=>q e0 e1 h0 h0 h1 (Cq hk hx)
    show FP _ _ _ _ (EI k xs (.at i))
    rw[e];exact g
theorem J2{exact:Bool}{key:Em}(hk:Kv k)(A3:CJ key)(h:FN ns):FP Aa (d+6) .AN [AD k xs (D1 ns),Bj key,.s (.bool exact)] (Kh k xs ns key exact):=by
 have e1:=MN (Aa:=Aa) (d:=d) (xs:=xs) (exact:=exact) hk A3 h
 cases hp:Kh k xs ns key exact with
 | error e=>rw[hp]at e1;rcases hk with rfl | rfl | rfl<;>exact QF (.a (.a (.a (.a (.b .z))))) fun q=>q Cg e1
 | ok t=>rw[hp]at e1;rcases hk with rfl | rfl | rfl<;>exact QF .z fun q=>q Cg e1
theorem Pu:Cj Aa (d+2) .AN [FT,a,x] FT:=QF .z fun q=>q
theorem G5(hk:Ka k):Cj Aa (d+2) .A8 [AD k [x] a] (.s (.bool false)):=by
 rcases hk with rfl | rfl<;>exact QF .z fun q=>q Cg Az
theorem Ln{y:TV}:Cj Aa (d+2) .A8 [AD 8 [x,y] a] (.s (.bool true)):=QF .z fun q=>q Cg Az
theorem O6:∀key:Em,∃k x,Ka k/\Bj key=AD k [x] (.s .none)
 | .na=>⟨8,_,.inl rfl,rfl⟩
 | .num i=>⟨8,_,.inl rfl,rfl⟩
 | .nm k=>⟨9,_,.inr rfl,rfl⟩
end
inductive Aj where
 | null
 | atom (k:Nat) (xs:List TV) (ns:Option (List TV))
 | list (ts:List Aj) (ns:Option (List TV))
noncomputable def Aj.ctorIdx(x:Aj):Nat:= @Aj.casesOn (fun J=>Nat) x 0 (fun J J J=>1) (fun J J=>2)
mutual
noncomputable def Aj.v:Aj->TV
 | .null=>FT
 | .atom k xs ns=>AD k xs (D1 ns)
 | .list ts ns=>AD 7 (Aj.vs ts) (D1 ns)
noncomputable def Aj.vs:List Aj->List TV
 | []=>[]
 | t::ts=>t.v::Aj.vs ts
end
noncomputable def EF:Option (List TV)->TV
 | none=> .n (.dct []) []
 | some ns=> .n (.dct [5]) [.n .tup [.s (.w 9),.n .lst ns,.n (.dct []) []]]
mutual
noncomputable def Aj.w:Aj->TV
 | .null=> .s (.w 6)
 | .atom k xs ns=> .n .tup [.s (.w k),.n .lst xs,EF ns]
 | .list ts ns=> .n .tup [.s (.w 7),.n .lst (Aj.ws ts),EF ns]
noncomputable def Aj.ws:List Aj->List TV
 | []=>[]
 | t::ts=>t.w::Aj.ws ts
end
theorem Fc:∀{ts:List Aj},Aj.vs ts=ts.map Aj.v
 | []=>rfl
 | t::ts=>congrArg (List.cons t.v) Fc
theorem Eb:∀{ts:List Aj},Aj.ws ts=ts.map Aj.w
 | []=>rfl
 | t::ts=>congrArg (List.cons t.w) Eb
noncomputable def M1(ns:Option (List TV))(n:Nat):Prop:=∀l,ns=some l->l.all Ee=true/\l.length=n
noncomputable def LJ(t:Aj):Pl->Except Nat Aj
 | .na=>match t with
  | .atom k _ _=> .ok (.atom k [.s .none] none)
  | _=> .ok .null
 | .no=>match t with
  | .atom _ _ _=> .error 28
  | _=> .ok .null
 | .at n=>match t with
  | .null=> .ok .null
  | .atom k xs _=>match xs[n]? with
   | none=> .error 28
   | some x=> .ok (.atom k [x] none)
  | .list ts _=>match ts[n]? with
   | none=> .error 28
   | some x=> .ok x
noncomputable def Aj.names:Aj->Option (List TV)
 | .null=>none
 | .atom _ _ ns=>ns
 | .list _ ns=>ns
noncomputable def B1(t:Aj)(key:Em)(exact:Bool):Except Nat Aj:=match t with
 | .null=> .ok .null
 | t=>(AR t.names exact key).bind (LJ t)
inductive Bf(st:Bool):Nat->Aj->Prop
 | null {d:Nat}:Bf st d .null
 | atom {d k:Nat} {xs:List TV} {ns:Option (List TV)} (hk:Ka k) (hx:xs.length<=8) (hn:M1 ns xs.length) (hi:xs.all (fun x=>x.casesOn Vp (fun J J=>false) false)=true/\(st=true->xs.length<=4/\(k=8->∀x ∈ xs,∃i:Int,x=.s (.int i)/\0<=i/\i<=100000))):Bf st d (.atom k xs ns)
 | list {d:Nat} {ts:List Aj} {ns:Option (List TV)} (hx:ts.length<=8) (hn:M1 ns ts.length) (hs:st=true->ts.length<=4) (ht:∀t ∈ ts,Bf st d t):Bf st (d+1) (.list ts ns)
theorem M1.ok{ns:Option (List TV)}{n:Nat}(h:M1 ns n)(hn:n<=8):FN ns:=fun l e=>⟨(h l e).1,by rw[(h l e).2];exact zz ‹_› (by rfl)⟩
section
variable{Aa:List Int}{d k k' w:Nat}{xs:List TV}{ns:Option (List TV)}{a x n:TV}{st:Bool}{m:Nat}{t:Aj}{key:Em}{exact:Bool}
theorem JP{ts:List Aj}:Kh 7 (Aj.vs ts) ns key exact=(B1 (.list ts ns) key exact).map Aj.v:=by
 show(AR ns exact key).bind (EI 7 (Aj.vs ts))=((AR ns exact key).bind (LJ (.list ts ns))).map Aj.v
 cases AR ns exact key with
 | error i=>rfl
 | ok p=>cases p with
  | na=>rfl
  | no=>rfl
  | «at» i=>
   show EI 7 (Aj.vs ts) (.at i)=(LJ (.list ts ns) (.at i)).map Aj.v
   unfold EI LJ
   dsimp only
   rw[Fc,List.getElem?_map]
   cases ts[i]? <;>rfl
theorem PJ(hk:Ka k):Kh k xs ns key exact=(B1 (.atom k xs ns) key exact).map Aj.v:=by
 have k7:¬k=7:=by exact fun e=>g8 ‹_› e (by decide)
 show(AR ns exact key).bind (EI k xs)=((AR ns exact key).bind (LJ (.atom k xs ns))).map Aj.v
 cases AR ns exact key with
 | error i=>rfl
 | ok p=>cases p with
  | na=>exact congrArg Except.ok (if_neg k7)
  | no=>exact if_neg k7
  | «at» i=>
   show EI k xs (.at i)=(LJ (.atom k xs ns) (.at i)).map Aj.v
   unfold EI LJ
   dsimp only
   cases xs[i]? with
   | none=>rfl
   | some x=>exact congrArg Except.ok (if_neg k7)
theorem K9(ht:Bf st m t)(A3:CJ key):FP Aa (d+6) .AN [t.v,Bj key,.s (.bool exact)] ((B1 t key exact).map Aj.v):=by
 cases ht with
 | null=>exact Pu
 | @atom _ k xs ns hk hx hn hi=>exact PJ hk▸J2 (Aa:=Aa) (d:=d) (xs:=xs) (exact:=exact) (.inr hk) A3 (hn.ok hx)
 | @list _ ts ns hx hn hs hts=>exact JP (ts:=ts)▸J2 (Aa:=Aa) (d:=d) (xs:=Aj.vs ts) (exact:=exact) (.inl rfl) A3 (hn.ok hx)
end
section
variable{Aa:List Int}{d k k' w:Nat}{xs:List TV}{ns:Option (List TV)}{a x n:TV}{st:Bool}{m:Nat}{t u:Aj}{ts:List Aj}{key:Em}{exact:Bool}
theorem Uj(ht:Bf st m t)(A3:CJ key):FP Aa (d+7) .Bd [t.v,.n .lst [Bj key],.s (.bool exact)] ((B1 t key exact).map Aj.v):=by
 have e:=K9 (Aa:=Aa) (d:=d) (exact:=exact) ht A3
 obtain⟨k,x,hk,hkt⟩:=O6 key
 rw[hkt]at e ⊢
 cases hr:B1 t key exact with
 | ok r=>
  rw[hr]at e
  rcases hk with rfl | rfl
  .exact QF .z fun q=>q (G5 (.inl rfl)) e
  .exact QF .z fun q=>q (G5 (.inr rfl)) e
 | error r=>
  rw[hr]at e
  rcases hk with rfl | rfl
  .exact QF (aa 6 (.b .z)) fun q=>q (G5 (.inl rfl)) e
  .exact QF (aa 6 (.b .z)) fun q=>q (G5 (.inr rfl)) e
noncomputable abbrev FU(i j:Nat):TV:=AD 8 [.s (.int (i:Int)),.s (.int (j:Int))] (.s .none)
theorem Ii{i j:Nat}:Cj Aa (d+2) .BN [FU i j] (.n .lst [Bj (.num i),Bj (.num j)]):=
 QF .z fun q=>q (.cons (o:=some _) (QM .z fun q=>q) (.cons (o:=some _) (QM .z fun q=>q) .nil))
noncomputable abbrev eL:List (MS Fn):=[.ifs (.cmp .eq (.attr (.O 0) 0) (.cst (.w 6))) [.raise 28] [],.asg 0 (.call .AN [.O 0,.idx (.O 4) (.O 5),.O 2])]
noncomputable abbrev WV(u:Aj)(i j k:Nat):AA:=[some (.f u.v),some (.f (.n .lst [FU i j])),some (bl true),some (.f (FU i j)),some (.f (.n .lst [Bj (.num i),Bj (.num j)])),some (il (k:Int))]
noncomputable def XB(u:Aj)(key:Em):Except Nat Aj:=match u with
 | .null=> .error 28
 | u=>B1 u key true
theorem Vo{i j:Nat}(ht:Bf st m (.list ts ns))(hi:ts[i]? =some u):FP Aa (d+7) .Bd [(Aj.list ts ns).v,.n .lst [FU (i+1) j],.s (.bool true)] ((XB u (.num j)).map Aj.v):=by
 have e1:=K9 (Aa:=Aa) (d:=d) (exact:=true) (key:= .num (i+1)) ht trivial
 have he:B1 (.list ts ns) (.num (i+1)) true=.ok u:=by
  show LJ (.list ts ns) (.at i)=_
  unfold LJ;dsimp only;rw[hi]
 rw[he]at e1
 have hu:∃m,Bf st m u:=by
  cases ht with
  | list _ _ _ h=>exact⟨_,h u (List.mem_of_getElem? hi)⟩
 obtain⟨m',hu⟩:=hu
 have e2:=K9 (Aa:=Aa) (d:=d) (exact:=true) (key:= .num j) hu trivial
 have b1:TS Aa (d+6) eL (WV (.list ts ns) (i+1) j 0) [] (.ok (WV u (i+1) j 0,none) []):=QS .z fun q=>q e1
 have ex:∀m,TS Aa (d+6) eL ((WV u (i+1) j 0).set 5 (some (il ((1:Nat):Int)))) [] (.exc m [])->bN Aa (d+7) .Bd [(Aj.list ts ns).v,.n .lst [FU (i+1) j],.s (.bool true)] m:=fun m h=>
  have g:=DL.next (i:=5) (xs:=IE 1 1) (env:=WV (.list ts ns) (i+1) j 0 |>.set 5 none) b1 (.exc h)
  QF (aa 8 (.b .z)) fun q=>q Ln Az Ii rfl (BI rfl) (E1 (n:=2) g)
 have ok:∀r,TS Aa (d+6) eL ((WV u (i+1) j 0).set 5 (some (il ((1:Nat):Int)))) [] (.ok (WV r (i+1) j 1,none) [])->Cj Aa (d+7) .Bd [(Aj.list ts ns).v,.n .lst [FU (i+1) j],.s (.bool true)] r.v:=fun r h=>
  have g:=DL.next (i:=5) (xs:=IE 1 1) (env:=WV (.list ts ns) (i+1) j 0 |>.set 5 none) b1 (.next h .nil)
  QF .z fun q=>q Ln Az Ii rfl (BI rfl) (E1 (n:=2) g)
 have nn:B1 u (.num j) true=XB u (.num j)->u≠.null->FP Aa (d+7) .Bd [(Aj.list ts ns).v,.n .lst [FU (i+1) j],.s (.bool true)] ((XB u (.num j)).map Aj.v):=fun he hn=>by
  rw[<-he]
  cases hr:B1 u (.num j) true with
  | ok r=>
   rw[hr]at e2
   exact ok r (by
    cases hu with
    | null=>exact absurd rfl hn
    | atom hk=>rcases hk with rfl | rfl<;>exact QS .z fun q=>q e2
    | list=>exact QS .z fun q=>q e2)
  | error r=>
   rw[hr]at e2
   exact ex r (by
    cases hu with
    | null=>exact absurd rfl hn
    | atom hk=>rcases hk with rfl | rfl<;>exact QS (.a (.a (.b .z))) fun q=>q e2
    | list=>exact QS (.a (.a (.b .z))) fun q=>q e2)
 cases u with
 | null=>exact ex 28 (QS .z fun q=>q)
 | atom=>exact nn rfl (by intro h;cases h)
 | list=>exact nn rfl (by intro h;cases h)
noncomputable def UW(t:Aj)(k:Nat):Except Nat Aj:=match t with
 | .null=> .ok .null
 | .atom _ _ _=> .error 30
 | .list ts ns=>B1 (.list ts ns) (.nm k) false
theorem C5(ht:Bf st m t)(hk:12<=k/\k < 18):FP Aa (d+6) .C5 [t.v,.s (.w k)] ((UW t k).map Aj.v):=by
 cases ht with
 | null=>exact QF .z fun q=>q
 | atom hk=>rcases hk with rfl | rfl<;>exact QF .z fun q=>q Cg Az
 | @list _ ts ns hx hn hs hts=>
  have e:=MN (Aa:=Aa) (d:=d) (xs:=Aj.vs ts) (ns:=ns) (exact:=false) (key:= .nm k) (.inl rfl) hk (hn.ok hx)
  have e':FP Aa (d+5) .AM [(Aj.list ts ns).v,Bj (.nm k),.s (.bool false)] ((B1 (.list ts ns) (.nm k) false).map Aj.v):=(JP (ts:=ts))▸e
  show FP _ _ _ _ ((B1 (.list ts ns) (.nm k) false).map Aj.v)
  cases hr:B1 (.list ts ns) (.nm k) false with
  | ok r=>rw[hr]at e';exact QF .z fun q=>q Cg Az Cy e'
  | error r=>rw[hr]at e';exact QF (aa 6 (.b .z)) fun q=>q Cg Az Cy e'
end
section
variable{Aa:List Int}{d k k' w:Nat}{xs ys:List TV}{ns:Option (List TV)}{a x n:TV}{st:Bool}{m:Nat}{t u:Aj}{ts:List Aj}{key:Em}{exact:Bool}
theorem TS.app{b c:List (MS Fn)}{env env1:AA}{L L1:List LC}{out:Oc (AA×Option LV)}(h:TS Aa d b env L (.ok (env1,none) L1))(h2:TS Aa d c env1 L1 out):TS Aa d (b++c) env L out:=fun F w s r hs=>by
 have app:∀(b:List (MS Fn)) (s:Mine.Env) (H:MH),Am (CS Aa d) (b++c) s H=bnd (Am (CS Aa d) b s) (fun p=>match p.2 with | some v=>ret (p.1,some v) | none=>Am (CS Aa d) c p.1) H:=by
  intro b
  induction b with
  | nil=>intro s H;rfl
  | cons x b ih=>
   intro s H
   show bnd (E3 (CS Aa d) x s) (fun p=>match p.2 with | some v=>ret (p.1,some v) | none=>Am (CS Aa d) (b++c) p.1) H=bnd (bnd (E3 (CS Aa d) x s) (fun p=>match p.2 with | some v=>ret (p.1,some v) | none=>Am (CS Aa d) b p.1)) (fun p=>match p.2 with | some v=>ret (p.1,some v) | none=>Am (CS Aa d) c p.1) H
   unfold bnd
   dsimp only
   cases E3 (CS Aa d) x s H with
   | ok p H1=>
    obtain⟨e,o⟩:=p
    cases o with
    | none=>exact ih e H1
    | some v=>rfl
   | exc=>rfl
   | bad=>rfl
 have e:Am (CS Aa d) (b++c) s=bnd (Am (CS Aa d) b s) (fun p=>match p.2 with | some v=>ret (p.1,some v) | none=>Am (CS Aa d) c p.1):=funext (app b s)
 rw[e]
 refine(h F w s r hs).bnd fun w1 p n q=> ?_
 obtain⟨e1,o⟩:=p
 have q2:=q.2
 cases q2
 exact h2 F w1 e1 n.r q.1
noncomputable abbrev eE(r:Except Nat TV):Oc TV:=match r with
 | .ok t=> .ok t []
 | .error m=> .exc m []
noncomputable def BL(Aa:List Int)(d:Nat)(b:List (MS Fn))(env:AA)(L:List LC):Except Nat TV->Prop
 | .ok t=>∃Ye v L2 L3,TS Aa d b env L (.ok (Ye,some v) L2)/\fz L2 v=some (t,L3)/\L3.all (fun c=> !c.bor)=true
 | .error m=>∃L2,TS Aa d b env L (.exc m L2)/\L2.all (fun c=> !c.bor)=true
theorem BL.app{b c:List (MS Fn)}{env env1:AA}{L L1:List LC}{r:Except Nat TV}(h:TS Aa d b env L (.ok (env1,none) L1))(h2:BL Aa d c env1 L1 r):BL Aa d (b++c) env L r:=by
 cases r with
 | ok t=>exact let⟨e,v,L2,L3,q,z⟩:=h2;⟨e,v,L2,L3,h.app q,z⟩
 | error m=>exact let⟨L2,q,z⟩:=h2;⟨L2,h.app q,z⟩
noncomputable abbrev gM(Aa:List Int)(d:Nat)(b:List (MS Fn))(env:AA)(L:List LC)(sc:Sc):Prop:=PC env fun e1=>PC L fun L1=>Ws Aa (OC Aa d) bw d b e1 L1 sc (fun p L2 J=>p.rec fun J o=>o.rec True fun v=>X9 L2 v fun t L3=>bE (L3.all fun c=> !c.bor) (BL Aa d b env L (.ok t))) fun m L2 J=>bE (L2.all fun c=> !c.bor) (BL Aa d b env L (.error m))
theorem QZ{b:List (MS Fn)}{env:AA}{L:List LC}{r:Except Nat TV}(sc:Sc)(h:gM Aa d b env L sc->BL Aa d b env L r):BL Aa d b env L r:=
 h (Fj (Fj (Kz Aa _ bw d (HH Aa d) b env L sc _ _ (fun p L2 J h=>by
  obtain⟨e,o⟩:=p
  cases o with
  | none=>trivial
  | some v=>exact Ax fun q hq=>Hd fun hb=>⟨e,v,L2,q.2,h,hq,hb⟩) fun m L2 J h=>Hd fun hb=>⟨L2,h,hb⟩)))
theorem QB{f:Fn}{args:List LV}{r:Except Nat TV}(hl:args.length=(prog f).params)(hd:(prog f).dflt=[])(h:BL Aa d (prog f).body (args.map some++List.replicate ((prog f).vars - (prog f).params) none) [] r):TR Aa (d+1) f args [] (eE r):=by
 cases r with
 | error m=>
  obtain⟨L2,h,hb⟩:=h
  have g:Sm RA RT (HR Aa (d+1) f) args [] (.exc m L2):=fun F w s r hs=>by
   rw[K2 (hs.len.trans hl) hd]
   exact(h F w _ r (KA hs _)).exc
  exact g.finX rfl hb
 | ok t=>
  obtain⟨_,v,L1,L2,h,hf,hb⟩:=h
  have g:Sm RA AF (HR Aa (d+1) f) args [] (.ok v L1):=fun F w s r hs=>by
   rw[K2 (hs.len.trans hl) hd]
   refine(h F w _ r (KA hs _)).bnd fun w1 p n q=> ?_
   obtain⟨e1,o⟩:=p
   have q2:=q.2
   cases q2 with
   | so y=>exact .same n.r rfl y
  exact g.fin hf rfl hb
theorem TS.frz{b:List (MS Fn)}{env env1:AA}{L L1:List LC}{i:Nat}{v:LV}{p:TV×List LC}(h:TS Aa d b env L (.ok (env1,none) L1))(hv:env1[i]? =some (some v))(hf:fz L1 v=some p)(h1:(p.2.take L.length).all (LC.lo L.length)=true)(h2:(p.2.drop L.length).all (fun c=> !c.bor)=true)(h3:(env1.set i none).all (fun o=>o.rec true (LV.lo L.length))=true):TS Aa d b env L (.ok (env1.set i (some (.f p.1)),none) (p.2.take L.length)):=fun F w s r hs=>by
 obtain⟨q,w1,e,n,z⟩:=h F w s r hs
 obtain⟨o,e1,e2⟩:=z.1.get hv
 cases e2 with
 | @so _ u x=>
  obtain⟨n2,y⟩:=GQ n.r x hf
  obtain⟨n3,l⟩:=Im (n.trans n2) r h1 h2
  refine⟨q,⟨w1.ρ.take L.length,w1.H⟩,e,n3,?_,?_⟩
  .have a:=WJ l ((AI n2.l n2.p z.1).hide (fun J=> .no) i) h3
   have b:=a.set (OV.so (a:=LV.f p.1) (FR.mono l y)) i
   rw[List.set_set]at b
   have c:q.1.set i (some u)=q.1:=by
    apply List.ext_getElem?
    intro j
    by_cases e:i=j
    .subst e;rw[Gq (Ew.mp e1).1,e1]
    .rw [Il e]
   rw[c]at b
   exact b
  .have q2:=z.2
   obtain⟨q1,q2'⟩:=q
   cases q2;exact .no
theorem Kp:Cj Aa (d+1) .BZ [.s (.w 8)] (.s (.int 2)):=QF .z fun q=>q
theorem KG:Cj Aa (d+1) .BZ [.s (.w 9)] (.s (.int 4)):=QF .z fun q=>q
noncomputable abbrev Ea(k k':Nat):Nat:=if k=8/\k'=8 then 8 else 9
theorem S0(hk:Ka k)(hk':Ka k'):Cj Aa (d+2) .B7 [.n .lst [.s (.w k),.s (.w k')]] (.s (.w (Ea k k'))):=by
 rcases hk with rfl | rfl<;>rcases hk' with rfl | rfl
 .exact QF .z fun q=>q (.next (QS .z fun q=>q Kp) (.next (QS .z fun q=>q Kp) .nil))
 .exact QF .z fun q=>q (.next (QS .z fun q=>q Kp) (.next (QS .z fun q=>q KG) .nil))
 .exact QF .z fun q=>q (.next (QS .z fun q=>q KG) (.next (QS .z fun q=>q Kp) .nil))
 .exact QF .z fun q=>q (.next (QS .z fun q=>q KG) (.next (QS .z fun q=>q KG) .nil))
theorem Qg{xs:List TV}:Cj Aa (d+2) .AX [AD 7 xs a,x] (.s (.w 7)):=QF .z fun q=>q Az
theorem P3{xs ys:List TV}{b:TV}(hk:Ka k)(hk':Ka k'):Cj Aa (d+3) .AX [AD k xs a,AD k' ys b] (.s (.w (Ea k k'))):=by
 have c:=S0 (Aa:=Aa) (d:=d) hk hk'
 rcases hk with rfl | rfl<;>rcases hk' with rfl | rfl<;>exact QF .z fun q=>q Az Gi c
theorem Nn{xs ys:List TV}{b:TV}(hk:Ka k):Cj Aa (d+3) .AX [AD k xs a,AD 7 ys b] (.s (.w 7)):=by
 rcases hk with rfl | rfl<;>exact QF .z fun q=>q Az Gi Az
noncomputable abbrev LN(k:Nat)(ys l:List TV):List LC:=[.dct [(5,AD 9 l (.s .none))],.lst false ys,.ins .vector [(0,sv (.w k)),(1,.r 1),(2,.r 0),(4,bl false)]]
noncomputable abbrev LP(k:Nat)(ys:List TV):List LC:=[.lst false ys,.ins .vector [(0,sv (.w k)),(1,.r 0),(2,sv .none),(4,bl false)]]
noncomputable def bH:Option TV->List LC
 | none=>[]
 | some w=>[.lst false [w]]
noncomputable abbrev ZZ:List (MS Fn):=[.ex (.append (.attr (.O 0) 1) (.call .Bt [.attr (.O 0) 0]))]
theorem Q0{l:List TV}{mo:Option TV}{e1 e2 e3 e4 e6:Option LV}(hk:Kv k):∀(zs ys:List TV) (e5:Option LV),ys.length+zs.length<=200->∃e5',DL (Am (CS Aa (d+2)) ZZ) 5 zs [some (.r 2),e1,e2,e3,e4,e5,e6] (LN k ys l++bH mo) (.ok ([some (.r 2),e1,e2,e3,e4,e5',e6],none) (LN k (ys++List.replicate zs.length (Dq k)) l++bH mo))
 | [],ys,e5,_=>⟨e5,by rw[List.length_nil,List.replicate_zero,List.append_nil];exact .nil⟩
 | z::zs,ys,e5,hl=>by
  rw[List.length_cons]at hl
  obtain⟨e5',g⟩:=Q0 hk zs (ys++[Dq k]) (some (.f z)) (by rw[C1];exact(show ys.length+1+zs.length<=200 by omega))
  have e:ys++List.replicate (z::zs).length (Dq k)=ys++[Dq k]++List.replicate zs.length (Dq k):=by rw[List.append_assoc];rfl
  rw[e]
  exact⟨e5',.next (by cases mo<;>exact QS .z fun q=>q (Rx hk) (show ys.length < 5000 by omega)) g⟩
theorem Th{mo:Option TV}{e1 e2 e3 e4 e6:Option LV}(hk:Kv k):∀(zs ys:List TV) (e5:Option LV),ys.length+zs.length<=200->∃e5',DL (Am (CS Aa (d+2)) ZZ) 5 zs [some (.r 1),e1,e2,e3,e4,e5,e6] (LP k ys++bH mo) (.ok ([some (.r 1),e1,e2,e3,e4,e5',e6],none) (LP k (ys++List.replicate zs.length (Dq k))++bH mo))
 | [],ys,e5,_=>⟨e5,by rw[List.length_nil,List.replicate_zero,List.append_nil];exact .nil⟩
 | z::zs,ys,e5,hl=>by
  rw[List.length_cons]at hl
  obtain⟨e5',g⟩:=Th hk zs (ys++[Dq k]) (some (.f z)) (by rw[C1];exact(show ys.length+1+zs.length<=200 by omega))
  have e:ys++List.replicate (z::zs).length (Dq k)=ys++[Dq k]++List.replicate zs.length (Dq k):=by rw[List.append_assoc];rfl
  rw[e]
  exact⟨e5',.next (by cases mo<;>exact QS .z fun q=>q (Rx hk) (show ys.length < 5000 by omega)) g⟩
end
noncomputable abbrev FM:TV:= .s (.w 16)
noncomputable def G6(k:Nat)(ys:List TV)(p:Nat):List TV:=if ys.length<=p then ys++List.replicate (p+1 - ys.length) (Dq k)else ys
noncomputable abbrev J8(mo:Option Nat):Option TV:=mo.map fun j=> .s (.w j)
noncomputable abbrev YO(mo:Option Nat):TV:= .s (mo.elim .none .w)
noncomputable def C2(b:List TV)(sz:Nat):List TV:=b++List.replicate (sz - b.length) FM
noncomputable def Fb(n:Nat)(ns:Option (List TV))(mo:Option Nat)(p:Nat):Option (List TV):=if n<=p then(match ns,mo with
  | none,none=>none
  | none,some j=>some (C2 (List.replicate n FM++[.s (.w j)]) (p+1))
  | some l,none=>some (C2 l (p+1))
  | some l,some j=>some (C2 (l++[.s (.w j)]) (p+1)))else ns
noncomputable def oL(k:Nat)(ys:List TV):Option (List TV)->List LC
 | none=>LP k ys
 | some l=>LN k ys l
noncomputable def oR:Option (List TV)->Nat
 | none=>1
 | some _=>2
theorem Fe{a b:Nat}:(D9 (a:Int) ((b:Int)+1)).length=b+1 - a:=by
 unfold D9 BV;simp
noncomputable abbrev PP:List (MS Fn):=(prog .AQ).body
noncomputable abbrev JE(v val notes:TV)(p:Nat)(mo:Option Nat)(ns:Option (List TV))(k:Nat):AA:=[some (.f v),some (il (p:Int)),some (.f (YO mo)),some (.f val),some (.f notes),some (.f (RK ns)),some (sv (.w k)),some (.r (oR ns)),none]
section
variable{Aa:List Int}{d k k' w:Nat}{xs ys:List TV}{ns:Option (List TV)}{a x n:TV}{st:Bool}{m:Nat}{t u:Aj}{ts:List Aj}{key:Em}{exact:Bool}
theorem T9(hk:Ka k):Cj Aa (d+1) .Ah [.s (.w k)] (.s (.bool false)):=by
 rcases hk with rfl | rfl<;>exact Az
inductive Wv(Aa:List Int)(d:Nat)(notes:TV)(k:Nat)(val w:TV):Prop
 | li (h:∀d,Cj Aa (d+1) .Ah [.s (.w k)] (.s (.bool true))) (hs:∀d,Cj Aa (d+1) .BJ [val] w):Wv Aa d notes k val w
 | ato (h:∀d,Cj Aa (d+1) .Ah [.s (.w k)] (.s (.bool false))) (hc:Cj Aa d .AP [val,.s (.w k),notes] (.n .lst [w])):Wv Aa d notes k val w
theorem Wv.list{notes:TV}{k:Nat}{ys:List TV}{a:TV}:Wv Aa d notes 7 (AD k ys a) (AD k ys a):= .li (fun J=>Az) fun J=>BJ
theorem Wv.atom{notes:TV}{k:Nat}{val w:TV}(h:Ka k)(hc:Cj Aa d .AP [val,.s (.w k),notes] (.n .lst [w])):Wv Aa d notes k val w:= .ato (fun J=>T9 h) hc
theorem Tc{v val notes w:TV}{p:Nat}{mo:Option Nat}(hk:Kv k)(hw:Wv Aa (d+4) notes k val w)(hy:ys.length<=90)(hp:p < 100)(hl:ys.length<=p->(ns.getD (List.replicate ys.length FM)).length+(J8 mo).toList.length<=p+1):
  BL Aa (d+4) (PP.drop 4) (JE v val notes p mo ns k) (oL k ys ns) (.ok (AD k ((G6 k ys p).set p w) (D1 (Fb ys.length ns mo p)))):=by
 by_cases hge:ys.length<=p
 .have hl:=hl hge
  have h1:(ys.length:Int)<=(p:Int):=Int.ofNat_le.mpr hge
  have e1:G6 k ys p=ys++List.replicate (p+1 - ys.length) (Dq k):=if_pos hge
  have hr:Cj Aa (d+2+1) .DJ [.s (.int ((p:Int)+1))] (.s (.int ((p:Int)+1))):=DJ (by exact qH ‹_› (by rfl))
  have Ba:p < (ys++List.replicate (p+1 - ys.length) (Dq k)).length:=by rw[C1,List.length_replicate];exact fA ‹_›
  have b1:(ys.length:Int)<=BR:=by unfold BR;exact qH hy (by rfl)
  have b2:(p:Int)+1<=BR:=by unfold BR;exact qI hp (by rfl)
  have b3:(0:Int)<=(p:Int)+1:=by exact Int.le_of_lt qK
  have b4:ys.length<=1000:=by exact zz hy (by rfl)
  have b5:ys.length+(D9 (ys.length:Int) ((p:Int)+1)).length<=200:=by rw[Fe];exact f1 (Nat.le_succ_of_le hge) hp (by rfl)
  have c0:∀n:Nat,p+1 - n<=1000:=fun n=>by exact fO hp (by rfl)
  have c1:∀l:List TV,l.length<=p+1->((p:Int)+1) - (l.length:Int)=((p+1 - l.length:Nat):Int):=fun l h=>by exact dM ‹_›
  have c2:∀l:List TV,l.length<=p+1->l.length+(List.replicate (p+1 - l.length) FM).length<=5000:=fun l h=>by rw[List.length_replicate];exact f1 h hp (by rfl)
  have c3:∀l:List TV,l.length+1<=p+1->l.length+1<=5000:=fun l h=>by exact Nat.le_trans h (zz hp (by rfl))
  rw[e1]
  unfold Fb
  rw[if_pos hge]
  cases ns with
  | some l=>
   cases mo with
   | none=>
    have hl:l.length<=p+1:=hl
    obtain⟨e5,g⟩:=Q0 (Aa:=Aa) (d:=d+1) (l:=l) (mo:=none) (e1:=some (il ((p:Int)+1))) (e2:=some (.f (.n .lst l))) (e3:=some (sv .none)) (e4:=some (il (ys.length:Int))) (e6:=none) hk (D9 (ys.length:Int) ((p:Int)+1)) ys none b5
    rw[Fe]at g
    have x:TS Aa (d+4) ((PP.drop 4).take 1) (JE v val notes p none (some l) k) (oL k ys (some l)) (.ok ((JE v val notes p none (some l) k).set 8 (some (sv .none)),none) (LN k (ys++List.replicate (p+1 - ys.length) (Dq k)) (C2 l (p+1))++[.lst false [FM],.lst false (List.replicate ys.length FM),.fz (.n .lst (C2 l (p+1))),.lst false [FM],.lst false (List.replicate (p+1 - l.length) FM)])):=QS (.b .z) fun q=>q h1 hr (Int.natCast_nonneg _) b1 b3 b2 g rfl b4 (c1 l hl) (c0 _) (c2 l hl) Cy BJ (BI rfl)
    cases hw with
    | li h hs=>exact BL.app x (QZ .z fun q=>q (h _) (hs _) Ba)
    | ato h hc=>exact BL.app x (QZ .z fun q=>q (h _) hc Ba)
   | some j=>
    have hl:l.length+1<=p+1:=hl
    have hl2:(l++[TV.s (.w j)]).length<=p+1:=by rw[C1];exact hl
    obtain⟨e5,g⟩:=Q0 (Aa:=Aa) (d:=d+1) (l:=l) (mo:=some (.s (.w j))) (e1:=some (il ((p:Int)+1))) (e2:=some (.f (.n .lst l))) (e3:=some (.r 3)) (e4:=some (il (ys.length:Int))) (e6:=none) hk (D9 (ys.length:Int) ((p:Int)+1)) ys none b5
    rw[Fe]at g
    have x:TS Aa (d+4) ((PP.drop 4).take 1) (JE v val notes p (some j) (some l) k) (oL k ys (some l)) (.ok ((JE v val notes p (some j) (some l) k).set 8 (some (.r 3)),none) (LN k (ys++List.replicate (p+1 - ys.length) (Dq k)) (C2 (l++[.s (.w j)]) (p+1))++[.lst false [.s (.w j)],.lst false [FM],.lst false (List.replicate ys.length FM),.fz (.n .lst (C2 (l++[.s (.w j)]) (p+1))),.lst false [FM],.lst false (List.replicate (p+1 - (l++[TV.s (.w j)]).length) FM)])):=QS (.b .z) fun q=>q h1 hr (Int.natCast_nonneg _) b1 b3 b2 g rfl b4 (c3 l hl) (c1 _ hl2) (c0 _) (c2 _ hl2) Cy BJ (BI rfl)
    cases hw with
    | li h hs=>exact BL.app x (QZ .z fun q=>q (h _) (hs _) Ba)
    | ato h hc=>exact BL.app x (QZ .z fun q=>q (h _) hc Ba)
  | none=>
   cases mo with
   | none=>
    obtain⟨e5,g⟩:=Th (Aa:=Aa) (d:=d+1) (mo:=none) (e1:=some (il ((p:Int)+1))) (e2:=some (sv .none)) (e3:=some (sv .none)) (e4:=some (il (ys.length:Int))) (e6:=none) hk (D9 (ys.length:Int) ((p:Int)+1)) ys none b5
    rw[Fe]at g
    have x:TS Aa (d+4) ((PP.drop 4).take 1) (JE v val notes p none none k) (oL k ys none) (.ok ((JE v val notes p none none k).set 8 (some (sv .none)),none) (LP k (ys++List.replicate (p+1 - ys.length) (Dq k)))):=QS (.b .z) fun q=>q h1 hr (Int.natCast_nonneg _) b1 b3 b2 g
    cases hw with
    | li h hs=>exact BL.app x (QZ .z fun q=>q (h _) (hs _) Ba)
    | ato h hc=>exact BL.app x (QZ .z fun q=>q (h _) hc Ba)
   | some j=>
    have hl:(List.replicate ys.length FM).length+1<=p+1:=hl
    have hl2:(List.replicate ys.length FM++[TV.s (.w j)]).length<=p+1:=by rw[C1];exact hl
    obtain⟨e5,g⟩:=Th (Aa:=Aa) (d:=d+1) (mo:=some (.s (.w j))) (e1:=some (il ((p:Int)+1))) (e2:=some (sv .none)) (e3:=some (.r 2)) (e4:=some (il (ys.length:Int))) (e6:=none) hk (D9 (ys.length:Int) ((p:Int)+1)) ys none b5
    rw[Fe]at g
    have x:TS Aa (d+4) ((PP.drop 4).take 1) (JE v val notes p (some j) none k) (oL k ys none) (.ok ((JE v val notes p (some j) none k).set 8 (some (.r 2)),none) ([.lst false (ys++List.replicate (p+1 - ys.length) (Dq k)),.ins .vector [(0,sv (.w k)),(1,.r 0),(2,.r 7),(4,bl false)],.lst false [.s (.w j)],.lst false [FM],.fz (.n .lst (C2 (List.replicate ys.length FM++[.s (.w j)]) (p+1))),.lst false [FM],.lst false (List.replicate (p+1 - (List.replicate ys.length FM++[TV.s (.w j)]).length) FM),.dct [(5,AD 9 (C2 (List.replicate ys.length FM++[.s (.w j)]) (p+1)) (.s .none))]])):=QS (.b .z) fun q=>q h1 hr (Int.natCast_nonneg _) b1 b3 b2 g rfl b4 (c3 _ hl) (c1 _ hl2) (c0 _) (c2 _ hl2) Cy BJ (BI rfl)
    cases hw with
    | li h hs=>exact BL.app x (QZ .z fun q=>q (h _) (hs _) Ba)
    | ato h hc=>exact BL.app x (QZ .z fun q=>q (h _) hc Ba)
 .have h1:¬(ys.length:Int)<=(p:Int):=fun h=>hge (Int.ofNat_le.mp h)
  have e1:G6 k ys p=ys:=if_neg hge
  have Ba:p < ys.length:=Nat.lt_of_not_le hge
  rw[e1]
  unfold Fb
  rw[if_neg hge]
  cases ns with
  | some l=>
   cases hw with
   | li h hs=>exact QZ (.c .z) fun q=>q h1 (h _) (hs _) Ba
   | ato h hc=>exact QZ (.c .z) fun q=>q h1 (h _) hc Ba
  | none=>
   cases hw with
   | li h hs=>exact QZ (.c .z) fun q=>q h1 (h _) (hs _) Ba
   | ato h hc=>exact QZ (.c .z) fun q=>q h1 (h _) hc Ba
end
section
variable{Aa:List Int}{d k k' kq w p:Nat}{xs ys zs:List TV}{ns nq:Option (List TV)}{a x n val notes:TV}{mo:Option Nat}
theorem Cv.kind(h:Cv k k' xs ys):Kv k/\Kv k':=by
 cases h with
 | same h=>exact⟨h,h⟩
 | list h=>exact⟨.inr h,.inl rfl⟩
 | dec=>exact⟨.inr (.inl rfl),.inr (.inr rfl)⟩
theorem Cv.len(h:Cv k k' xs ys):ys.length=xs.length:=by
 cases h with
 | same h=>rfl
 | list h=>exact List.length_map _
 | dec=>exact List.length_map _
theorem PL(hc:Cv k k' xs ys)(hq:Kv kq)(h1:k=7\/zs.length=1)(he:Cj Aa (d+8) .AX [AD k xs (D1 ns),AD kq zs a] (.s (.w k'))):
  TS Aa (d+8) (PP.take 4) [some (.f (AD k xs (D1 ns))),some (il (p:Int)),some (.f (YO mo)),some (.f (AD kq zs a)),some (.f notes),none,none,none,none] [] (.ok (JE (AD k xs (D1 ns)) (AD kq zs a) notes p mo ns k',none) (oL k' ys ns)):=by
 have c0:=NH (Aa:=Aa) (d:=d+1) (ns:=ns) (n:=notes) hc
 have n0:=AO (Aa:=Aa) (d:=d+5) (xs:=xs) (ns:=ns) hc.kind.1
 have l0:=Md (Aa:=Aa) (d:=d+7) (xs:=zs) (a:=a) hq
 have z0:∀{P:Prop},¬k=7->(zs.length=1->P)->P:=fun h f=>f (h1.resolve_left h)
 cases hc with
 | same hk=>
  rcases hk with rfl | rfl | rfl
  .cases ns<;>exact QS .z fun q=>q n0 Az he
  .refine z0 (by decide) fun h=> ?_
   rw[h]at l0
   cases ns<;>exact QS .z fun q=>q n0 Az l0 l0 he
  .refine z0 (by decide) fun h=> ?_
   rw[h]at l0
   cases ns<;>exact QS .z fun q=>q n0 Az l0 l0 he
 | list hk=>
  rcases hk with rfl | rfl
  .refine z0 (by decide) fun h=> ?_
   rw[h]at l0
   cases ns<;>exact QS .z fun q=>q n0 Az l0 l0 he c0
  .refine z0 (by decide) fun h=> ?_
   rw[h]at l0
   cases ns<;>exact QS .z fun q=>q n0 Az l0 l0 he c0
 | dec hi=>
  refine z0 (by decide) fun h=> ?_
  rw[h]at l0
  cases ns<;>exact QS .z fun q=>q n0 Az l0 l0 he c0
theorem Sl(hc:Cv k k' xs ys)(hq:Kv kq)(h1:k=7\/zs.length=1)(he:Cj Aa (d+8) .AX [AD k xs (D1 ns),AD kq zs a] (.s (.w k'))){w:TV}(hw:Wv Aa (d+8) notes k' (AD kq zs a) w)
  (hx:xs.length<=90) (hp:p < 100) (hl:xs.length<=p->(ns.getD (List.replicate xs.length FM)).length+(J8 mo).toList.length<=p+1):
  Cj Aa (d+9) .AQ [AD k xs (D1 ns),.s (.int (p:Int)),YO mo,AD kq zs a,notes] (AD k' ((G6 k' ys p).set p w) (D1 (Fb xs.length ns mo p))):=by
 have e:=hc.len
 have t:=Tc (Aa:=Aa) (d:=d+4) (v:=AD k xs (D1 ns)) (ns:=ns) (mo:=mo) (ys:=ys) hc.kind.2 hw (by rw[e];exact hx) hp (by rw[e];exact hl)
 rw[e]at t
 exact QB (r:= .ok _) rfl rfl (.app (PL hc hq h1 he) t)
end
noncomputable def one(k k':Nat)(x:TV):TV:=if k=k' then x else JM x
noncomputable def Eh(ts:List Aj)(p:Nat):List Aj:=if ts.length<=p then ts++List.replicate (p+1 - ts.length) .null else ts
noncomputable def Dh(t:Aj)(p:Nat)(mo:Option Nat)(q:Aj):Except Nat Aj:=match t with
 | .null=> .ok .null
 | .list ts ns=> .ok (.list ((Eh ts p).set p q) (Fb ts.length ns mo p))
 | .atom k xs ns=>match q with
  | .null=> .error 33
  | .atom _ [] _=> .error 33
  | .atom kq [y] _=> .ok (.atom (Ea k kq) ((G6 (Ea k kq) (xs.map (one k (Ea k kq))) p).set p (one kq (Ea k kq) y)) (Fb xs.length ns mo p))
  | .atom _ _ _=> .error 34
  | .list [] _=> .error 33
  | .list [_] _=> .ok (.list ((Eh (xs.map fun x=> .atom k [x] none) p).set p q) (Fb xs.length ns mo p))
  | .list _ _=> .error 34
theorem DI{ts:List Aj}:(Aj.vs ts).length=ts.length:=by rw[Fc,List.length_map]
theorem Q6{ts:List Aj}{p:Nat}{q:Aj}:Aj.vs ((Eh ts p).set p q)=(G6 7 (Aj.vs ts) p).set p q.v:=by
 rw[Fc,List.map_set]
 unfold Eh G6
 rw[DI]
 by_cases h:ts.length<=p
 .rw [if_pos h,if_pos h,List.map_append,List.map_replicate,Fc];rfl
 .rw [if_neg h,if_neg h,Fc]
section
variable{Aa:List Int}{d k k' kq w p m m':Nat}{xs ys zs:List TV}{ns nq:Option (List TV)}{a x n val notes:TV}{mo:Option Nat}{st:Bool}{t q:Aj}
theorem I9(hk:Ka k)(h:Cj Aa (d+3) .CM [val] (.s (.int 0))):bN Aa (d+4) .AQ [AD k xs (D1 ns),.s (.int (p:Int)),a,val,notes] 33:=by
 have n0:=AO (Aa:=Aa) (d:=d) (xs:=xs) (ns:=ns) (.inr hk)
 rcases hk with rfl | rfl<;>exact QF .z fun q=>q n0 Az h
theorem LI{n:Nat}(hk:Ka k)(h:Cj Aa (d+3) .CM [val] (.s (.int (n:Int))))(hn:2<=n):bN Aa (d+4) .AQ [AD k xs (D1 ns),.s (.int (p:Int)),a,val,notes] 34:=by
 have n0:=AO (Aa:=Aa) (d:=d) (xs:=xs) (ns:=ns) (.inr hk)
 have h1:(n:Int)≠0:=by exact fun e=>qM ‹_› e
 have h2:(1:Int) < (n:Int):=by exact qG ‹_›
 rcases hk with rfl | rfl<;>exact QF (aa 3 (.b (.a (.b .z)))) fun q=>q n0 Az h (aK h1) h h2
theorem NQ:Ka (Ea k kq):=by
 by_cases h:k=8/\kq=8
 .exact .inl (if_pos h)
 .exact .inr (if_neg h)
theorem Op:(J8 mo).toList.length=mo.toList.length:=by cases mo<;>rfl
theorem Ff:xs.map (one k k)=xs:=by
 have:one k k=id:=funext fun x=>if_pos rfl
 rw[this,List.map_id]
theorem YU{kq:Nat}(hk:Ka k)(hkq:Ka kq)(hi:k=8->∀x ∈ xs,∃i:Int,x=.s (.int i)/\0<=i/\i<=100000):Cv k (Ea k kq) xs (xs.map (one k (Ea k kq))):=by
 rcases hk with rfl | rfl
 .rcases hkq with rfl | rfl
  .exact (Ff (xs:=xs) (k:=8)).symm▸Cv.same (.inr (.inl rfl))
  .exact Cv.dec (hi rfl)
 .exact (Ff (xs:=xs) (k:=9)).symm▸Cv.same (.inr (.inr rfl))
theorem Xu{kq:Nat}{y:TV}(hk:Ka k)(hkq:Ka kq)(hi:kq=8->∀x ∈ [y],∃i:Int,x=.s (.int i)/\0<=i/\i<=100000):Cv kq (Ea k kq) [y] [one kq (Ea k kq) y]:=by
 rcases hkq with rfl | rfl
 .rcases hk with rfl | rfl
  .exact Cv.same (.inr (.inl rfl))
  .exact Cv.dec (hi rfl)
 .rcases hk with rfl | rfl<;>exact Cv.same (.inr (.inr rfl))
theorem RQ(ht:Bf true m t)(VT:t≠.null)(hq:Bf st m' q)(hsq:st=true\/∃ts ns,t=.list ts ns)(hlq:(∃ts ns,t=.list ts ns)->q≠.null)(hp:p < 100)(hl:(match t with | .null=>0 | .atom _ xs _=>xs.length | .list ts _=>ts.length)<=p->(match t with | .null=>0 | .atom _ xs _=>xs.length | .list ts _=>ts.length)+mo.toList.length<=p+1):
  FP Aa (d+9) .AQ [t.v,.s (.int (p:Int)),YO mo,q.v,notes] ((Dh t p mo q).map Aj.v):=by
 have nl:∀{n:Nat} {ns:Option (List TV)},M1 ns n->(n<=p->n+mo.toList.length<=p+1)->n<=p->(ns.getD (List.replicate n FM)).length+(J8 mo).toList.length<=p+1:=fun {n ns} h1 h2 h3=>by
  rw[Op]
  cases ns with
  | none=>rw[show(none:Option (List TV)).getD (List.replicate n FM)=List.replicate n FM from rfl,List.length_replicate];exact h2 h3
  | some l=>rw[show(some l).getD (List.replicate n FM)=l from rfl,(h1 l rfl).2];exact h2 h3
 cases ht with
 | null=>exact absurd rfl VT
 | @list _ ts ns hxs hn hs4 hts=>
  have hqn:=hlq ⟨ts,ns,rfl⟩
  have hl:ts.length<=p->ts.length+mo.toList.length<=p+1:=hl
  have hl2:=nl hn hl
  rw[<-DI (ts:=ts)]at hl2
  have go:∀{kq zs a},Kv kq->Cj Aa (d+9) .AQ [(Aj.list ts ns).v,.s (.int (p:Int)),YO mo,AD kq zs a,notes] (AD 7 ((G6 7 (Aj.vs ts) p).set p (AD kq zs a)) (D1 (Fb (Aj.vs ts).length ns mo p))):=fun h=>Sl (.same (.inl rfl)) h (.inl rfl) Qg .list (by rw[DI];exact zz ‹_› (by rfl)) hp hl2
  show Cj Aa (d+9) _ _ (AD 7 (Aj.vs ((Eh ts p).set p q)) (D1 (Fb ts.length ns mo p)))
  rw[Q6,<-DI (ts:=ts)]
  cases hq with
  | null=>exact absurd rfl hqn
  | atom hk=>exact go (.inr hk)
  | list=>exact go (.inl rfl)
 | @atom _ k xs ns hk hxs hn hi=>
  have hl2:=nl hn hl
  have hx:xs.length<=90:=by exact zz ‹_› (by rfl)
  cases hq with
  | null=>exact I9 (d:=d+5) hk M9
  | @atom _ kq ys nq hkq hys hnq hiq=>
   rcases ys with _ | ⟨y,_ | ⟨y2,r⟩⟩
   .exact I9 (d:=d+5) hk (Md (.inr hkq))
   .have ek:=P3 (Aa:=Aa) (d:=d+5) (xs:=xs) (a:=D1 ns) (ys:=[y]) (b:=D1 nq) hk hkq
    have c1:=YU (xs:=xs) hk hkq (hi.2 rfl).2
    have c2:=Xu (y:=y) hk hkq fun e=>(hiq.2 (hsq.elim id fun⟨_,_,h⟩=>nomatch h)).2 e
    exact Sl c1 (.inr hkq) (.inr rfl) ek (.atom NQ (NH (d:=d+2) c2)) hx hp hl2
   .exact LI (d:=d+5) hk (Md (.inr hkq)) (by simp)
  | @list _ us nq hus hnq hs5 hts=>
   rcases us with _ | ⟨u,_ | ⟨u2,r⟩⟩
   .exact I9 (d:=d+5) hk (Md (.inl rfl))
   .have g:=Sl (Aa:=Aa) (d:=d) (p:=p) (mo:=mo) (notes:=notes) (ns:=ns) (Cv.list (xs:=xs) hk) (kq:=7) (zs:=[u.v]) (a:=D1 nq) (.inl rfl) (.inr rfl) (Nn hk) .list hx hp hl2
    show Cj Aa (d+9) _ _ (AD 7 (Aj.vs ((Eh (xs.map fun x=> .atom k [x] none) p).set p (.list [u] nq))) (D1 (Fb xs.length ns mo p)))
    rw[Q6,Fc,List.map_map]
    exact g
   .exact LI (d:=d+5) hk (Md (.inl rfl)) (by rw[DI];simp)
end
noncomputable def C9{α:Type}(p:Nat):Nat->List α->List α
 | _,[]=>[]
 | i,x::xs=>if i=p then C9 p (i+1) xs else x::C9 p (i+1) xs
theorem GU{α:Type}{p:Nat}:∀{xs:List α} {i:Nat},C9 p i xs=if i<=p then xs.eraseIdx (p - i)else xs
 | [],i=>by simp[C9]
 | x::xs,i=>by
  show(if i=p then C9 p (i+1) xs else x::C9 p (i+1) xs)=_
  rw[GU]
  by_cases h:i=p
  .subst h
   rw[if_pos rfl,if_neg (Nat.not_succ_le_self i),if_pos (Nat.le_refl _),Nat.sub_self];rfl
  .rw [if_neg h]
   by_cases h2:i<=p
   .rw [if_pos (show i+1<=p from Nat.lt_of_le_of_ne h2 h),if_pos h2,show p - i=(p - (i+1))+1 by exact f5 ‹_› ‹_›,List.eraseIdx_cons_succ]
   .rw [if_neg fun h=>h2 (Nat.le_of_succ_le h),if_neg h2]
theorem O9{α:Type}{p:Nat}{xs:List α}:C9 p 0 xs=xs.eraseIdx p:=by rw[GU,if_pos (Nat.zero_le _),Nat.sub_zero]
section
variable{Aa:List Int}{d k w p:Nat}{xs:List TV}{ns:Option (List TV)}{a x n:TV}
theorem MB:Cj Aa (d+1) .B5 [.n .lst [.s (.int (p:Int))]] (.s (.int ((p:Int)+1))):=
 QF .z fun q=>q (.next (QS (.a (.b .z)) fun q=>q (Int.natCast_nonneg p)) .nil)
theorem QK{it:ME Fn}{b:List (MS Fn)}{i:Nat}{env:AA}{L:List LC}{y:TV}(h:Sm RV AF (Ac (CS Aa d) it) env L (.ok (.f (.n (.dct [5]) [y])) L))(hi:i < env.length)(hb:∀(e:Mine.Env) H,e[i]? =some (some (.w 5))->Am (CS Aa d) b e H=.ok (e,none) H):
  Sm RV HG (E3 (CS Aa d) (.forD i it b)) env L (.ok (env.set i (some (sv (.w 5))),none) L):=fun F w s r hs=>by
 obtain⟨v,w1,e1,n,q⟩:=h F w s r hs
 cases q with
 | @n _ _ a vs g1 g2 g3=>
  cases g3 with
  | @cons _ u _ _ x1 x2=>
   cases x2
   have g:w1.H[a]? =some (.dictW [(5,u)]):=DH g1.2
   have lt:=(Ew.mp g).1
   have e2:EW (fun x env=>Am (CS Aa d) b (env.set i (some x))) (stays (.ref a) (.dictP [(5,u)])) [.w 5] s (w1.H.set a (.dictP [(5,u)]))=.ok (s.set i (some (.w 5)),none) (w1.H.set a (.dictP [(5,u)])):=
    (Av (hb _ _ (Gq (by rw[hs.len];exact hi)))).trans ((Av (Jm (Gq lt))).trans rfl)
   refine⟨(s.set i (some (.w 5)),none),w1,(Av e1).trans ((Av (m:=getD (.ref a)) (a:=[(5,u)]) (Ap g rfl)).trans (Ia ((Av (Jc e2)).trans (Ia ?_)))),n,(AI n.l n.p hs).set (OV.so (a:=sv _) .s) i,.no⟩
   rw[List.set_set,IV g];rfl
noncomputable abbrev bU:List (MS Fn):=[.ifs (.cmp .notin (.O 8) (.O 4)) [.asg 9 (.cmp .lt (.O 8) (.len (.attr (.O 0) 1))),.ex (.append (.O 6) (.ite (.O 9) (.idx (.attr (.O 0) 1) (.O 8)) (.mk .null []))),.ifs (.isNone true (.O 2)) [.ex (.append (.O 7) (.ite (.O 9) (.idx (.O 2) (.O 8)) (.cst (.w 16))))] []] []]
theorem Gm{e1 e3 e5:Option LV}{ns:Option (List TV)}{a:TV}(hx:xs.length<=100)(hn:∀l,ns=some l->l.length=xs.length):∀(n i:Nat) (out lo:List TV) (e8 e9:Option LV),i+n=xs.length->out.length<=i->lo.length<=i->
  ∃e8' e9',DL (Am (CS Aa (d+1)) bU) 8 (IE i n) [some (.f (AD 7 xs a)),e1,some (.f (RK ns)),e3,some (.r 0),e5,some (.r 1),some (.r 2),e8,e9,none,none] [.dci [((p:Int),.s (.bool true))],.lst false out,.lst false lo]
   (.ok ([some (.f (AD 7 xs a)),e1,some (.f (RK ns)),e3,some (.r 0),e5,some (.r 1),some (.r 2),e8',e9',none,none],none) [.dci [((p:Int),.s (.bool true))],.lst false (out++C9 p i (xs.drop i)),.lst false (lo++match ns with | none=>[] | some l=>C9 p i (l.drop i))])
 | 0,i,out,lo,e8,e9,h,_,_=>⟨e8,e9,by
  have e:∀l:List TV,l.length=xs.length->l.drop i=[]:=fun l hl=>List.drop_eq_nil_iff.mpr (by exact Nat.le_of_eq (Eq.trans ‹_› (Eq.symm ‹_›)))
  rw[e xs rfl]
  cases ns with
  | none=>rw[show C9 p i ([]:List TV)=[]from rfl,List.append_nil,List.append_nil];exact .nil
  | some l=>dsimp only;rw[e l (hn l rfl),show C9 p i ([]:List TV)=[]from rfl,List.append_nil,List.append_nil];exact .nil⟩
 | n+1,i,out,lo,e8,e9,h,ho,hlo=>by
  have hi:i < xs.length:=by exact cV ‹_›
  have ed:∀l:List TV,(hl:i < l.length)->l.drop i=l[i]::l.drop (i+1):=fun l hl=>List.drop_eq_getElem_cons hl
  have hxi:xs[i]? =some xs[i]:=List.getElem?_eq_getElem hi
  have lt:(i:Int) < (xs.length:Int):=Int.ofNat_lt.mpr hi
  have l1:out.length < 5000:=by exact qZ ‹_› ‹_› ‹_› (by rfl)
  have l2:lo.length < 5000:=by exact qZ ‹_› ‹_› ‹_› (by rfl)
  by_cases hp:i=p
  .obtain ⟨e8',e9',g⟩:=Gm (e1:=e1) (e3:=e3) (e5:=e5) (a:=a) hx hn n (i+1) out lo (some (il i)) e9 (by exact bO ‹_›) (by exact Nat.le_succ_of_le ‹_›) (by exact Nat.le_succ_of_le ‹_›)
   have hs:(look (i:Int) [((p:Int),TV.s (.bool true))]).isSome=true:=by rw[hp];exact congrArg Option.isSome (if_pos rfl)
   have ea:∀{l:List TV},i < l.length->C9 p i (l.drop i)=C9 p (i+1) (l.drop (i+1)):=fun hl=>by rw[ed _ hl];exact if_pos hp
   rw[ea hi]
   cases ns with
   | none=>exact⟨e8',e9',.next (QS (.b .z) fun q=>q hs) g⟩
   | some l=>dsimp only;rw[ea (by rw[hn l rfl];exact hi)];exact⟨e8',e9',.next (QS (.b .z) fun q=>q hs) g⟩
  .have hs:(look (i:Int) [((p:Int),TV.s (.bool true))]).isSome=false:=congrArg Option.isSome (if_neg (show ¬((p:Int)=(i:Int)) by exact fun e=>(by assumption:¬_) (Int.ofNat.inj e).symm))
   have ea:∀{l:List TV} (hl:i < l.length),C9 p i (l.drop i)=l[i]::C9 p (i+1) (l.drop (i+1)):=fun hl=>by rw[ed _ hl];exact if_neg hp
   rw[ea hi]
   cases ns with
   | none=>
    obtain⟨e8',e9',g⟩:=Gm (e1:=e1) (e3:=e3) (e5:=e5) (a:=a) (ns:=none) hx hn n (i+1) (out++[xs[i]]) lo (some (il i)) (some (bl true)) (by exact bO ‹_›) (by rw[C1];exact Nat.succ_le_succ ho) (by exact Nat.le_succ_of_le ‹_›)
    rw[List.append_assoc]at g
    exact⟨e8',e9',.next (QS (.c (.b (.b .z))) fun q=>q hs lt hxi l1) g⟩
   | some l=>
    have hl:=hn l rfl
    have hli:l[i]? =some (l[i]'(by rw[hl];exact hi)):=List.getElem?_eq_getElem _
    dsimp only
    rw[ea (l:=l) (by rw[hl];exact hi)]
    obtain⟨e8',e9',g⟩:=Gm (e1:=e1) (e3:=e3) (e5:=e5) (a:=a) (ns:=some l) hx hn n (i+1) (out++[xs[i]]) (lo++[l[i]'(by rw[hl];exact hi)]) (some (il i)) (some (bl true)) (by exact bO ‹_›) (by rw[C1];exact Nat.succ_le_succ ho) (by rw[C1];exact Nat.succ_le_succ hlo)
    rw[List.append_assoc,List.append_assoc]at g
    exact⟨e8',e9',.next (QS (.c (.b (.b (.a (.b .z))))) fun q=>q hs lt hxi l1 hli l2) g⟩
end
section
variable{Aa:List Int}{d k w p:Nat}{xs:List TV}{ns:Option (List TV)}{a x n:TV}
noncomputable abbrev TE(Aa:List Int)(d:Nat)(e:ME Fn)(env:AA)(L:List LC)(out:Oc LV):Prop:=Sm RV AF (Ac (CS Aa d) e) env L out
noncomputable abbrev gY(Aa:List Int)(d:Nat)(e:ME Fn)(env:AA)(L:List LC)(sc:Sc):Prop:=PC env fun e1=>PC L fun L1=>RE Aa (OC Aa d) bw d e e1 L1 sc (fun v L1 J=>TE Aa d e env L (.ok v L1)) fun m L1 J=>TE Aa d e env L (.exc m L1)
theorem QE{e:ME Fn}{env:AA}{L:List LC}{out:Oc LV}(sc:Sc)(h:gY Aa d e env L sc->TE Aa d e env L out):TE Aa d e env L out:=
 h (Fj (Fj (Mw Aa _ bw d (HH Aa d) e env L sc _ _ (fun J J J h=>h) fun J J J h=>h)))
theorem WQ(e:Mine.Env)(H:MH)(h:e[11]? =some (some (.w 5))):Am (CS Aa d) [.ifs (.inW true (.O 11) [5,25,31]) [.bad] []] e H=.ok (e,none) H:=
 have e1:Ac (CS Aa d) (.inW true (.O 11) [5,25,31]) e H=.ok (.bool false) H:=(Av (Bn (x:= .w 5) (by rw[h];rfl))).trans rfl
 (Av (m:=E3 (CS Aa d) (.ifs (.inW true (.O 11) [5,25,31]) [.bad] []) e) ((Av e1).trans rfl)).trans rfl
theorem Qn(hx:xs.length<=90)(hn:∀l,ns=some l->l.length=xs.length)(hp:p < xs.length):Cj Aa (d+5) .BD [AD 7 xs (D1 ns),.n .lst [.s (.int (p:Int))]] (AD 7 (xs.eraseIdx p) (D1 (ns.map (·.eraseIdx p)))):=by
 have n0:=AO (Aa:=Aa) (d:=d+1) (k:=7) (xs:=xs) (ns:=ns) (.inl rfl)
 have r0:=DJ (Aa:=Aa) (d:=d+3) (i:=(xs.length:Int)) (by exact qH ‹_› (by rfl))
 have h1:¬(p:Int)+1 > (xs.length:Int):=by exact fun e=>f6 ‹_› e
 have pl:p<=BR:=by unfold BR;exact Nat.le_trans (Nat.le_of_lt ‹_›) (zz ‹_› (by rfl))
 obtain⟨e8,e9,g⟩:=Gm (Aa:=Aa) (d:=d+3) (p:=p) (xs:=xs) (ns:=ns) (a:=D1 ns) (e1:=some (.f (.n .lst [.s (.int (p:Int))]))) (e3:=some (il (xs.length:Int))) (e5:=some (il (p:Int))) (by exact zz ‹_› (by rfl)) hn xs.length 0 [] [] none none (Nat.zero_add _) (Nat.le_refl _) (Nat.le_refl _)
 rw[List.drop_zero,O9,List.nil_append,List.nil_append]at g
 cases ns with
 | none=>exact QF (.a (.a (.c .z))) fun q=>q n0 MB h1 r0 (.next (QS .z fun q=>q pl (BI rfl)) .nil) rfl (by exact zz ‹_› (by rfl)) (E1 g)
 | some l=>
  dsimp only at g
  rw[List.drop_zero,O9]at g
  exact QF (.a (.a (.c .z))) fun q=>q n0 MB h1 r0 (.next (QS .z fun q=>q pl (BI rfl)) .nil) rfl (by exact zz ‹_› (by rfl)) (E1 g) (QK (QE .z fun q=>q) (BI rfl) WQ) Cy BJ (BI rfl)
end
noncomputable def Aj.len:Aj->Nat
 | .null=>0
 | .atom _ xs _=>xs.length
 | .list ts _=>ts.length
noncomputable def Bu:Em->Option Nat
 | .nm k=>some k
 | _=>none
noncomputable def KN(t q:Aj)(mo:Option Nat):Pl->Except Nat Aj
 | .na=> .error 28
 | .no=>match t,q with
  | .list _ _,.null=> .ok t
  | _,_=>Dh t t.len mo q
 | .at n=>match t,q with
  | .list ts ns,.null=>if ts.length<=n then .ok t else .ok (.list (ts.eraseIdx n) (ns.map (·.eraseIdx n)))
  | _,_=>Dh t n none q
noncomputable def Cf(t:Aj)(key:Em)(q:Aj):Except Nat Aj:=(AR t.names true key).bind (KN t q (Bu key))
noncomputable abbrev gA:List (MS Fn):=(prog .AC).body.drop 1
section
variable{Aa:List Int}{d k k' kq w p m m':Nat}{xs ys zs:List TV}{ns nq:Option (List TV)}{a x n val notes:TV}{mo:Option Nat}{st:Bool}{t q:Aj}{key:Em}
theorem Mb:∀{ts:List Aj} {p:Nat},Aj.vs (ts.eraseIdx p)=(Aj.vs ts).eraseIdx p
 | [],_=>rfl
 | t::ts,0=>rfl
 | t::ts,p+1=>congrArg (List.cons t.v) Mb
inductive Bf.vecI(t:Aj):Prop
 | mk (k:_) (xs:_) (ns:_) (q0:t.v=AD k xs (D1 ns)) (q1:Kv k) (q2:FN ns) (q3:xs.length=t.len) (q4:t.len<=8) (q5:t.names=ns) (q6:(∀l,ns=some l->l.length=xs.length)) (q7:(∀ts ns',t=.list ts ns'->xs=Aj.vs ts/\ns=ns'/\k=7)) (q8:(∀k' xs' ns',t=.atom k' xs' ns'->Ka k)):Bf.vecI t
theorem Bf.vec(h:Bf st m t)(h0:t≠.null):Bf.vecI t:=by
 cases h with
 | null=>exact absurd rfl h0
 | atom hk hx hn=>exact⟨_,_,_,rfl,.inr hk,hn.ok hx,rfl,hx,rfl,fun l h=>(hn l h).2,fun J J e=>(by cases e),fun J J J J=>hk⟩
 | list hx hn=>exact⟨_,_,_,rfl,.inl rfl,hn.ok hx,DI,hx,rfl,fun l h=>(hn l h).2.trans DI.symm,fun J J e=>(by cases e;exact⟨rfl,rfl,rfl⟩),fun J J J e=>(by cases e)⟩
theorem Oz{k i:Nat}(h:FN ns)(e:E7 ns k true=.at i):i < 80:=by
 cases ns with
 | none=>cases e
 | some l=>
  by_cases h16:k=16
  .subst h16;cases e
  .cases hx:l.findIdx? (DM k)with
   | none=>rw[GD h16 hx]at e;cases e
   | some j=>
    rw[Gn h16 hx]at e
    cases e
    have:=(List.findIdx?_eq_some_iff_getElem.mp hx).1
    exact Nat.lt_of_lt_of_le this (h l rfl).2
theorem Oy{e4:Option LV}(ht:Bf true m t)(VT:t≠.null)(hq:Bf st m' q)(hsq:st=true\/∃ts ns,t=.list ts ns)(A3:CJ key)(hnum:∀i,key=.num i->i<=80):
  BL Aa (d+9) gA [some (.f t.v),some (.f (Bj key)),some (.f q.v),some (.f notes),e4,none,none,none] [] ((Cf t key q).map Aj.v):=by
 obtain⟨k,xs,ns,hv,hk,hno,Ba,hl8,Dn,hnl,hL,hA⟩:=ht.vec VT
 have n0:=AO (Aa:=Aa) (d:=d+6) (xs:=xs) (ns:=ns) hk
 have e1:=Bs (Aa:=Aa) (d:=d+5) (a:= .s (.int xs.length)) (exact:=true) A3 hno
 unfold Cf
 rw[Dn]
 cases hp:AR ns true key with
 | error e=>rw[hp]at e1;rw[hv];exact QZ (.a (.b .z)) fun q=>q n0 e1
 | ok pl=>
  rw[hp]at e1
  show BL _ _ _ _ _ ((KN t q (Bu key) pl).map Aj.v)
  cases pl with
  | na=>rw[hv];exact QZ .z fun q=>q n0 e1
  | no=>
   have put:(∀ts ns',t=.list ts ns'->q≠.null)->FP Aa (d+9) .AQ [AD k xs (D1 ns),.s (.int (xs.length:Int)),YO (Bu key),q.v,notes] ((Dh t t.len (Bu key) q).map Aj.v):=fun h=>by
    have g:=RQ (Aa:=Aa) (d:=d) (p:=t.len) (mo:=Bu key) (notes:=notes) ht VT hq hsq (fun⟨ts,ns',e⟩=>h ts ns' e) (by exact g5 ‹_› (by rfl)) (fun J=>by
     have:(Bu key).toList.length<=1:=by cases key<;>simp[Bu]
     cases t<;>simp only [Aj.len]<;>omega)
    rw[hv]at g
    rw[Ba];exact g
   obtain⟨j,rfl⟩:∃j,key=.nm j:=by
    cases key with
    | na=>cases hp
    | nm j=>exact⟨j,rfl⟩
    | num i=>cases i<;>cases hp
   cases hqn:q with
   | null=>
    subst hqn
    cases t with
    | null=>exact absurd rfl VT
    | list ts ns'=>obtain⟨rfl,rfl,rfl⟩:=hL ts ns' rfl;exact QZ .z fun q=>q n0 e1 Az
    | atom k' xs' ns'=>
     have hk':=hA _ _ _ rfl
     have g:=put (fun J J e=>by cases e)
     rw[hv]
     rcases hk' with rfl | rfl<;>exact QZ (aa 5 (.a (.a (.a (.b .z))))) fun q=>q n0 e1 Az g
   | _=>
    have hq0:q≠.null:=by rw[hqn];intro h;cases h
    rw[<-hqn]
    obtain⟨kq,ys,nq,hqv,hkq,_⟩:=hq.vec hq0
    have g:=put fun J J J=>hq0
    rw[show KN t q (Bu (.nm j)) .no=Dh t t.len (Bu (.nm j)) q by rw[hqn];cases t<;>rfl]
    rw[hv,hqv]
    rw[hqv]at g
    have h6:kq≠6:=by omega
    cases hr:Dh t t.len (Bu (.nm j)) q with
    | ok r=>rw[hr]at g;exact QZ (aa 3 (.b .z)) fun q=>q n0 e1 (G0 h6) g
    | error r=>rw[hr]at g;exact QZ (aa 3 (.b (.a (.a (.a (.b .z)))))) fun q=>q n0 e1 (G0 h6) g
  | «at» i=>
   have h0:¬((i:Nat):Int) < 0:=Int.not_lt.mpr (Int.natCast_nonneg i)
   have put:i < 100->(∀ts ns',t=.list ts ns'->q≠.null)->FP Aa (d+9) .AQ [AD k xs (D1 ns),.s (.int (i:Int)),.s .none,q.v,notes] ((Dh t i none q).map Aj.v):=fun hi h=>by
    have g:=RQ (Aa:=Aa) (d:=d) (p:=i) (mo:=none) (notes:=notes) ht VT hq hsq (fun⟨ts,ns',e⟩=>h ts ns' e) hi (fun h=>Nat.le_succ_of_le h)
    rw[hv]at g
    exact g
   have hi:i < 100:=by
    cases key with
    | na=>cases hp
    | num n=>
     have:=hnum n rfl
     cases n with
     | zero=>cases hp
     | succ n=>cases hp;exact zz ‹_› (by rfl)
    | nm j=>
     have:=Oz hno (Except.ok.inj hp)
     exact zz ‹_› (by rfl)
   cases hqn:q with
   | null=>
    subst hqn
    cases t with
    | null=>exact absurd rfl VT
    | list ts ns'=>
     obtain⟨rfl,rfl,rfl⟩:=hL ts ns' rfl
     show BL _ _ _ _ _ ((if ts.length<=i then _ else _:Except Nat Aj).map Aj.v)
     by_cases h:ts.length<=i
     .rw [if_pos h]
      have h1:((Aj.vs ts).length:Int)<=(i:Int):=by rw[DI];exact Int.ofNat_le.mpr h
      exact QZ (aa 5 (.c (.b .z))) fun q=>q n0 e1 Az h0 h1
     .rw [if_neg h]
      have h1:¬((Aj.vs ts).length:Int)<=(i:Int):=by rw[DI];exact fun q=>h (Int.ofNat_le.mp q)
      have g:=Qn (Aa:=Aa) (d:=d+4) (xs:=Aj.vs ts) (ns:=ns) (p:=i) (by rw[DI];exact Nat.le_trans hl8 (by decide)) hnl (by rw[DI];exact Nat.lt_of_not_le h)
      rw[<-Mb]at g
      exact QZ (aa 5 (.c (.c .z))) fun q=>q n0 e1 Az h0 h1 g
    | atom k' xs' ns'=>
     have hk':=hA _ _ _ rfl
     have g:=put hi (fun J J e=>by cases e)
     rw[hv]
     rcases hk' with rfl | rfl<;>exact QZ (aa 5 (.c (.b .z))) fun q=>q n0 e1 Az h0 g
   | _=>
    have hq0:q≠.null:=by rw[hqn];intro h;cases h
    rw[<-hqn]
    obtain⟨kq,ys,nq,hqv,hkq,_⟩:=hq.vec hq0
    have g:=put hi fun J J J=>hq0
    rw[show KN t q (Bu key) (.at i)=Dh t i none q by rw[hqn];cases t<;>rfl]
    rw[hv,hqv]
    rw[hqv]at g
    have h6:kq≠6:=by omega
    cases hr:Dh t i none q with
    | ok r=>rw[hr]at g;exact QZ (aa 3 (.b (.c .z))) fun q=>q n0 e1 (G0 h6) h0 g
    | error r=>rw[hr]at g;exact QZ (aa 3 (.b (.c (.b .z)))) fun q=>q n0 e1 (G0 h6) h0 g
end
noncomputable def BP(t:Aj)(key:Em)(q:Aj):Except Nat Aj:=match t,q with
 | .null,.null=> .ok .null
 | .null,.atom k [y] ns=>Cf (.atom k [] none) key (.atom k [y] ns)
 | .null,q=>Cf (.list [] none) key q
 | t,q=>Cf t key q
section
variable{Aa:List Int}{d k k' kq w p m m':Nat}{xs ys zs:List TV}{ns nq:Option (List TV)}{a x n val notes:TV}{mo:Option Nat}{st:Bool}{t q:Aj}{key:Em}
theorem EV:M1 none 0:=fun J h=>by cases h
theorem Lr(ht:Bf true m t)(hq:Bf st m' q)(hsq:st=true\/∃ts ns,t=.list ts ns)(A3:CJ key)(hnum:∀i,key=.num i->i<=80):
  FP Aa (d+10) .AC [t.v,Bj key,q.v,notes] ((BP t key q).map Aj.v):=by
 have nn:t≠.null->FP Aa (d+10) .AC [t.v,Bj key,q.v,notes] ((Cf t key q).map Aj.v):=fun h0=>by
  have e:=Oy (Aa:=Aa) (d:=d) (e4:=none) (notes:=notes) ht h0 hq hsq A3 hnum
  obtain⟨k,xs,ns,hv,hk,_⟩:=ht.vec h0
  rw[hv]at e ⊢
  exact QB (f:= .AC) (args:=[.f (AD k xs (D1 ns)),.f (Bj key),.f q.v,.f notes]) rfl rfl (.app (b:=(prog .AC).body.take 1) (QS (.b .z) fun q=>q (G0 (show k≠6 by exact fun e=>g9 ‹_› e (by decide)))) e)
 cases t with
 | list ts ns=>exact nn (by intro h;cases h)
 | atom k xs ns=>exact nn (by intro h;cases h)
 | null=>
  have st1:st=true:=hsq.elim id fun⟨_,_,h⟩=>by cases h
  have go:∀k',Bf true 1 (if k'=7 then .list [] none else .atom k' [] none)->(if k'=7 then Aj.list [] none else .atom k' [] none).v=AD k' [] (.s .none)->TS Aa (d+9) ((prog .AC).body.take 1) [some (.f FT),some (.f (Bj key)),some (.f q.v),some (.f notes),none,none,none,none] [] (.ok ([some (.r 1),some (.f (Bj key)),some (.f q.v),some (.f notes),some (sv (.w k')),none,none,none],none) (LP k' []))->FP Aa (d+10) .AC [FT,Bj key,q.v,notes] ((Cf (if k'=7 then .list [] none else .atom k' [] none) key q).map Aj.v):=fun k' h1 h2 h3=>by
   have e:=Oy (Aa:=Aa) (d:=d) (e4:=some (sv (.w k'))) (notes:=notes) h1 (by split<;>(intro h;cases h)) hq (.inl st1) A3 hnum
   rw[h2]at e
   have g:=h3.frz (i:=0) rfl (p:=(AD k' [] (.s .none),_)) rfl rfl rfl rfl
   exact QB (f:= .AC) (args:=[.f FT,.f (Bj key),.f q.v,.f notes]) rfl rfl (.app g e)
  have l0:Bf true 1 (.list [] none):= .list (by decide) EV (fun J=>by decide) (fun t h=>by cases h)
  have a0:∀{k},Ka k->Bf true 1 (.atom k [] none):=fun h=> .atom h (by decide) EV ⟨rfl,fun J=>⟨by decide,fun J x h=>by cases h⟩⟩
  cases hq with
  | null=>exact QF .z fun q=>q
  | @list _ us nq hus hnq hs5 hts=>exact go 7 l0 rfl (QS (.a (.b .z)) fun q=>q (G0 (by decide)) Gi)
  | @atom _ kq ys nq hkq hys hnq hiq=>
   have h6:kq≠6:=by exact fun e=>g8 ‹_› e (by decide)
   rcases ys with _ | ⟨y,_ | ⟨y2,r⟩⟩
   .rcases hkq with rfl | rfl<;>exact go 7 l0 rfl (QS (.a (.b .z)) fun q=>q (G0 (by decide)) Gi)
   .rcases hkq with rfl | rfl
    .exact go 8 (a0 (.inl rfl)) rfl (QS (.a (.b .z)) fun q=>q (G0 (by decide)) Gi)
    .exact go 9 (a0 (.inr rfl)) rfl (QS (.a (.b .z)) fun q=>q (G0 (by decide)) Gi)
   .have e:((y::y2::r).length:Int)≠1:=by simp only [List.length_cons];exact fun e=>cU e
    rcases hkq with rfl | rfl<;>exact go 7 l0 rfl (QS (.a (.b (.a (.b .z)))) fun q=>q (G0 (by decide)) Gi (aK e))
end
section
variable{Aa:List Int}{d k k' kq w p m m' i j:Nat}{xs ys zs:List TV}{ns nq:Option (List TV)}{a x n val notes:TV}{mo:Option Nat}{st:Bool}{t q u:Aj}{ts:List Aj}{key:Em}
theorem Lx(ht:Bf true m t)(hq:Bf st m' q)(hsq:st=true\/∃ts ns,t=.list ts ns)(A3:CJ key)(hnum:∀i,key=.num i->i<=80):
  FP Aa (d+11) .A5 [t.v,.n .lst [Bj key],q.v,notes] ((BP t key q).map Aj.v):=by
 have g:=Lr (Aa:=Aa) (d:=d) (notes:=notes) ht hq hsq A3 hnum
 cases t with
 | null=>
  cases hr:BP .null key q with
  | ok r=>rw[hr]at g;exact QF .z fun q=>q g
  | error r=>rw[hr]at g;exact QF (aa 4 (.b .z)) fun q=>q g
 | atom k xs ns=>
  have hk:Ka k:=by cases ht;assumption
  cases hr:BP (.atom k xs ns) key q with
  | ok r=>rw[hr]at g;exact QF (.b (.b .z)) fun q=>q (G0 (show k≠21 by exact fun e=>g8 ‹_› e (by decide))) (G0 (show k≠6 by exact fun e=>g8 ‹_› e (by decide))) Cg g
  | error r=>rw[hr]at g;exact QF (.b (.b (aa 3 (.b .z)))) fun q=>q (G0 (show k≠21 by exact fun e=>g8 ‹_› e (by decide))) (G0 (show k≠6 by exact fun e=>g8 ‹_› e (by decide))) Cg g
 | list ts ns=>
  cases hr:BP (.list ts ns) key q with
  | ok r=>rw[hr]at g;exact QF .z fun q=>q Cg g
  | error r=>rw[hr]at g;exact QF (aa 5 (.b .z)) fun q=>q Cg g
theorem Ql(ht:Bf true m t)(hq:Bf st m' q)(hsq:st=true\/∃ts ns,t=.list ts ns)(A3:CJ key)(hnum:∀i,key=.num i->i<=80):
  FP Aa (d+12) .Ay [t.v,.n .lst [Bj key],q.v,notes] ((BP t key q).map Aj.v):=by
 have g:=Lx (Aa:=Aa) (d:=d) (notes:=notes) ht hq hsq A3 hnum
 obtain⟨k,x,hk,hkt⟩:=O6 key
 rw[hkt]at g ⊢
 cases hr:BP t key q with
 | ok r=>rw[hr]at g;rcases hk with rfl | rfl<;>exact QF .z fun q=>q (G5 (by decide)) g
 | error r=>rw[hr]at g;rcases hk with rfl | rfl<;>exact QF (aa 6 (.b .z)) fun q=>q (G5 (by decide)) g
noncomputable def LS(t u:Aj)(i j:Nat)(q:Aj):Except Nat Aj:=match u with
 | .null=> .error 36
 | u=>(BP u (.num j) q).bind (BP t (.num (i+1)))
theorem QN(ht:Bf true m (.list ts ns))(hi:ts[i]? =some u)(hq:Bf true m' q)(hj:j<=80)(hput:∀r,BP u (.num j) q=.ok r->∃st n,Bf st n r):
  FP Aa (d+12) .A5 [(Aj.list ts ns).v,.n .lst [Bj (.num (i+1)),Bj (.num j)],q.v,notes] ((LS (.list ts ns) u i j q).map Aj.v):=by
 have hu:∃m,Bf true m u:=by
  cases ht with
  | list _ _ _ h=>exact⟨_,h u (List.mem_of_getElem? hi)⟩
 have hts:ts.length<=8:=by cases ht;assumption
 have hil:i < ts.length:=(Ew.mp hi).1
 obtain⟨m2,hu⟩:=hu
 have e1:=K9 (Aa:=Aa) (d:=d+5) (exact:=true) (key:= .num (i+1)) ht trivial
 have he:B1 (.list ts ns) (.num (i+1)) true=.ok u:=by
  show LJ (.list ts ns) (.at i)=_
  unfold LJ;dsimp only;rw[hi]
 rw[he]at e1
 have g1:=Lx (Aa:=Aa) (d:=d) (notes:=notes) (key:= .num j) hu hq (.inl rfl) trivial (fun J h=>by cases h;exact hj)
 have nn:u≠.null->LS (.list ts ns) u i j q=(BP u (.num j) q).bind (BP (.list ts ns) (.num (i+1)))->FP Aa (d+12) .A5 [(Aj.list ts ns).v,.n .lst [Bj (.num (i+1)),Bj (.num j)],q.v,notes] ((LS (.list ts ns) u i j q).map Aj.v):=fun h0 h2=>by
  obtain⟨k,xs,nu,hv,hk,_⟩:=hu.vec h0
  have hk6:=G0 (show k≠6 by exact fun e=>g9 ‹_› e (by decide))
  have e1:Cj Aa (d+11) .AN [(Aj.list ts ns).v,Bj (.num (i+1)),.s (.bool true)] (AD k xs (D1 nu)):=hv▸e1
  rw[hv]at g1
  rw[h2]
  cases hr:BP u (.num j) q with
  | error r=>rw[hr]at g1;exact QF (aa 6 (.b (.a (.b .z)))) fun q=>q Cg e1 hk6 (BI rfl) g1
  | ok r=>
   rw[hr]at g1
   obtain⟨st,n,Ls⟩:=hput r hr
   have g2:=Lr (Aa:=Aa) (d:=d+1) (notes:=notes) (key:= .num (i+1)) (q:=r) ht Ls (.inr ⟨_,_,rfl⟩) trivial (fun J h=>by cases h;exact Nat.le_trans ‹_› (zz ‹_› (by rfl)))
   show FP _ _ _ _ ((BP (.list ts ns) (.num (i+1)) r).map Aj.v)
   cases hr2:BP (.list ts ns) (.num (i+1)) r with
   | ok r2=>rw[hr2]at g2;exact QF (aa 6 (.b .z)) fun q=>q Cg e1 hk6 (BI rfl) g1 g2
   | error r2=>rw[hr2]at g2;exact QF (aa 6 (.b (.a (.a (.b .z))))) fun q=>q Cg e1 hk6 (BI rfl) g1 g2
 cases u with
 | null=>exact QF .z fun q=>q Cg e1
 | atom=>exact nn (by intro h;cases h) rfl
 | list=>exact nn (by intro h;cases h) rfl
theorem R3(ht:Bf true m (.list ts ns))(hi:ts[i]? =some u)(hq:Bf true m' q)(hj:j<=80)(hput:∀r,BP u (.num j) q=.ok r->∃st n,Bf st n r):
  FP Aa (d+13) .Ay [(Aj.list ts ns).v,.n .lst [FU (i+1) j],q.v,notes] ((LS (.list ts ns) u i j q).map Aj.v):=by
 have g:=QN (Aa:=Aa) (d:=d) (notes:=notes) ht hi hq hj hput
 cases hr:LS (.list ts ns) u i j q with
 | ok r=>rw[hr]at g;exact QF .z fun q=>q Ln Az Ii g
 | error r=>rw[hr]at g;exact QF (aa 8 (.b .z)) fun q=>q Ln Az Ii g
end
noncomputable def Do:Aj->Aj
 | .null=> .list [] none
 | .atom k xs ns=> .list (xs.map fun x=> .atom k [x] none) ns
 | t=>t
noncomputable def Ok:Aj->List TV
 | .atom _ (_::_) _=>[.s (.w 37)]
 | _=>[]
section
variable{Aa:List Int}{d k k' kq w p m m' i j n':Nat}{xs ys zs:List TV}{ns nq:Option (List TV)}{a x n val notes:TV}{mo:Option Nat}{st st':Bool}{t q u r:Aj}{ts:List Aj}{key:Em}
theorem Bf.weak{n:Nat}(h:Bf st n t):Bf false n t:=by
 induction h with
 | null=>exact .null
 | atom hk hx hn hi=>exact .atom hk hx hn ⟨hi.1,fun h=>by cases h⟩
 | list hx hn hs _ ih=>exact .list hx hn (fun h=>by cases h) ih
theorem Bf.le{n m:Nat}(h:Bf st n t):n<=m->Bf st m t:=by
 induction h generalizing m with
 | null=>exact fun J=> .null
 | atom hk hx hn hi=>exact fun J=> .atom hk hx hn hi
 | list hx hn hs _ ih=>
  intro hle
  cases m with
  | zero=>exact absurd hle (Nat.not_succ_le_zero _)
  | succ m=>exact .list hx hn hs fun t h=>ih t h (Nat.le_of_succ_le_succ hle)
theorem Kq(h:Bf true m t):Bf true (m+1) (Do t):=by
 cases h with
 | null=>exact .list (by decide) EV (fun J=>by decide) (fun t h=>by cases h)
 | atom hk hx hn hi=>
  refine .list (by rw[List.length_map];exact hx) (by rw[List.length_map];exact hn) (fun h=>by rw[List.length_map];exact(hi.2 h).1) fun t h=> ?_
  obtain⟨x,hx,rfl⟩:=List.mem_map.mp h
  exact .atom hk (BI rfl) (fun l e=>by cases e) ⟨by rw[List.all_cons,List.all_eq_true.mp hi.1 x hx];rfl,fun hs=>⟨BI rfl,fun h8 y hy=>by cases hy with | head=>exact(hi.2 hs).2 h8 x hx | tail _ h=>cases h⟩⟩
 | list hx hn hs ht=>exact(Bf.list hx hn hs ht).le (Nat.le_succ _)
theorem Qe(ht:Bf true m t)(hq:Bf true m' q)(hk:12<=k/\k < 18):
  TR Aa (d+11) .Bh [.f t.v,.f (.s (.w k)),.f q.v,.r 0] [.lst true []] (match BP (Do t) (.nm k) q with | .ok r=> .ok r.v [.lst true (Ok t)] | .error e=> .exc e [.lst true (Ok t)]):=by
 have g:=Lr (Aa:=Aa) (d:=d) (notes:= .u) (key:= .nm k) (Kq ht) hq (.inl rfl) hk (fun i h=>by cases h)
 cases ht with
 | null=>
  cases hr:BP (Do .null) (.nm k) q with
  | ok r=>rw[hr]at g;exact QF .z fun q=>q Cg Az Cy g
  | error r=>rw[hr]at g;exact QF (aa 5 (.b .z)) fun q=>q Cg Az Cy g
 | @list _ ts ns hx hn hs hts=>
  cases hr:BP (Do (.list ts ns)) (.nm k) q with
  | ok r=>rw[hr]at g;exact QF .z fun q=>q Cg Az Cy g
  | error r=>rw[hr]at g;exact QF (aa 5 (.b .z)) fun q=>q Cg Az Cy g
 | @atom _ k' xs ns hk' hx hn hi=>
  have g:FP Aa (d+10) .AC [AD 7 (xs.map fun x=>AD k' [x] (.s .none)) (D1 ns),Bj (.nm k),q.v,.u] ((BP (Do (.atom k' xs ns)) (.nm k) q).map Aj.v):=by
   have e:(Do (.atom k' xs ns)).v=AD 7 (xs.map fun x=>AD k' [x] (.s .none)) (D1 ns):=by
    show AD 7 (Aj.vs _) (D1 ns)=_
    rw[Fc,List.map_map];rfl
   rw[<-e];exact g
  have c:=NH (Aa:=Aa) (d:=d+3) (ns:=ns) (n:= .u) (Cv.list (xs:=xs) hk')
  rcases xs with _ | ⟨x,xs⟩
  .cases hr:BP (Do (.atom k' [] ns)) (.nm k) q with
   | ok r=>rw[hr]at g;rcases hk' with rfl | rfl<;>cases ns with
    | none=>exact QF .z fun q=>q Cg Az c Cy g
    | some l=>exact QF .z fun q=>q Cg Az c Cy g
   | error r=>rw[hr]at g;rcases hk' with rfl | rfl<;>cases ns with
    | none=>exact QF (aa 9 (.b .z)) fun q=>q Cg Az c Cy g
    | some l=>exact QF (aa 9 (.b .z)) fun q=>q Cg Az c Cy g
  .have h0:(0:Int) < ((x::xs).length:Int):=by simp only [List.length_cons];exact qG (Nat.succ_pos _)
   cases hr:BP (Do (.atom k' (x::xs) ns)) (.nm k) q with
   | ok r=>rw[hr]at g;rcases hk' with rfl | rfl<;>cases ns with
    | none=>exact QF (aa 4 (.b .z)) fun q=>q Cg Az h0 (BI rfl) c Cy g
    | some l=>exact QF (aa 4 (.b .z)) fun q=>q Cg Az h0 (BI rfl) c Cy g
   | error r=>rw[hr]at g;rcases hk' with rfl | rfl<;>cases ns with
    | none=>exact QF (aa 4 (.b (aa 4 (.b .z)))) fun q=>q Cg Az h0 (BI rfl) c Cy g
    | some l=>exact QF (aa 4 (.b (aa 4 (.b .z)))) fun q=>q Cg Az h0 (BI rfl) c Cy g
end
section
variable{Aa:List Int}{d k m i j n:Nat}{xs ys:List TV}{ns:List TV}{a x nv:TV}{st:Bool}{t:Aj}{ts:List Aj}{G G':Nat->Af->Prop}
theorem Q9{vs:List V}(h:ns.all Ee=true)(hr:OY G ns vs):OY G' ns vs:=by
 induction ns generalizing vs with
 | nil=>cases hr;exact .nil
 | cons x ns ih=>
  rw[List.all_cons,PQ]at h
  cases hr with
  | cons a b=>
   rcases Iw h.1 with rfl | ⟨j,rfl,_⟩
   .cases a;exact .cons .s (ih h.2 b)
   .cases a;exact .cons .s (ih h.2 b)
theorem Up{c:Nat}{u:V}(hl:∀b x,G b x->b≠c->G' b x)(hc:∀x,G c x->x.casesOn (motive:=fun J=>Prop) (fun J=>False) (fun J=>False) (fun J=>True) (fun J=>False) (fun J=>False) (fun J J=>False) False)(h:ns.all Ee=true)(hr:FR G (AD 9 ns (.s .none)) u):FR G' (AD 9 ns (.s .none)) u:=by
 cases hr with
 | n g1 g2 g3=>
  cases g3 with
  | cons a g3=>cases g3 with
   | cons b g3=>cases g3 with
    | cons e g3=>cases g3 with
     | cons f g3=>
      cases g3;cases a;cases e;cases f
      cases b with
      | n h1 h2 h3=>exact .n (hl _ _ g1 fun q=>by subst q;exact hc _ g1) g2 (.cons .s (.cons (.n (hl _ _ h1 fun q=>by subst q;exact hc _ h1) h2 (Q9 h h3)) (.cons .s (.cons .s .nil))))
theorem Sd{H:MH}{c:Nat}{p:Nat×V}{r:List (Nat×V)}(h:gd H c=some (.dictP (p::r))):H[c]? =some (.dictP (p::r)):=by
 obtain⟨c',e,h⟩:=Ju h
 cases c' with
 | inst k fs=>rcases GB h with h | ⟨h,_⟩<;>cases h
 | dictP kvs=>rw[e];exact congrArg some h
 | _=>cases h
inductive Z4(G:Nat->Af->Prop)(t:TV)(s:Mine.Env):Prop
 | mk (v:V) (v1:Option V) (e:s=[some v,v1]) (h:FR G t v):Z4 G t s
theorem Ye{G:Nat->Af->Prop}{ρ:List Nat}{t:TV}{e1:Option LV}{s:Mine.Env}(hs:Rs (OV (AF G ρ)) [some (.f t),e1] s):Z4 G t s:=by
 cases hs with
 | cons hv hs=>cases hs with
  | cons _ hs=>
   cases hs
   cases hv with
   | so hv=>exact⟨_,_,rfl,hv⟩
inductive aB(G:Nat->Af->Prop)(k:Nat)(ns:List TV)(v:V):Prop
 | mk (a c:Nat) (b u:V) (e:v=.ref a) (g:G a (Nd.cell (.ins .vector [0,1,2,4]) [.w k,b,.ref c,.bool false])) (y:G c (.dictW [(5,u)])) (z:FR G (AD 9 ns (.s .none)) u):aB G k ns v
theorem Va{G:Nat->Af->Prop}{k:Nat}{xs ns:List TV}{v:V}(h:FR G (AD k xs (D1 (some ns))) v):aB G k ns v:=by
 cases h with
 | n g1 _ g3=>
  cases g3 with
  | cons x1 g3=>cases g3 with
   | cons _ g3=>cases g3 with
    | cons x3 g3=>cases g3 with
     | cons x4 g3=>
      cases g3;cases x1;cases x4
      cases x3 with
      | n y1 _ y3=>cases y3 with
       | cons z1 z2=>cases z2;exact⟨_,_,_,_,rfl,g1,y1,z1⟩
theorem MT{env:AA}{L:List LC}{e1:Option LV}(he:env=[some (.f (AD k xs (D1 (some ns)))),e1])(Dn:ns.all Ee=true)(hcall:Cj Aa d .AE [AD 9 ns (.s .none)] nv):
  TE Aa d (.dcomp (.call .AE [.idx (.attr (.O 0) 2) (.O 2)]) (.attr (.O 0) 2)) env L (.ok (.f (.n (.dct [5]) [nv])) L):=fun F w s r hs=>by
 subst he
 obtain⟨v,v1,rfl,hv⟩:=Ye hs
 obtain⟨a,c,b1,u,rfl,g1,y1,z1⟩:=Va hv
 have hc:w.H[c]? =some (.dictW [(5,u)]):=DH y1.2
 have lc:=(Ew.mp hc).1
 obtain⟨fs,ha,hq,_⟩:=H8 (c:= .vector) g1.2
 have hac:a≠c:=fun q=>by rw[q,hc]at ha;cases ha
 have at2:∀H:MH,H[a]? =some (.inst .vector fs)->∀s':Mine.Env,s'[0]? =some (some (.ref a))->Ac (CS Aa d) (.attr (.O 0) 2) s' H=.ok (.ref c) H:=fun H h s' h0=>
  (Av (Bn (x:=V.ref a) (by rw[h0];rfl))).trans (Ap h (Bn (((Ez 2 fs).trans (DF (by decide) fs).symm).trans (by rw[<-hq];rfl))))
 let H2:MH:=w.H.set c (.dictP [(5,u)])++[.dictW []]
 have l2:H2.length=w.H.length+1:=by rw[C1,List.length_set];rfl
 have o2:∀b,b < w.H.length->b≠c->H2[b]? =w.H[b]? :=fun b hb hn=>by rw[MU (by rw[List.length_set];exact hb),Il (Ne.symm hn)]
 have c2:H2[c]? =some (.dictP [(5,u)]):=by rw[MU (by rw[List.length_set];exact lc),Gq lc]
 have d2:H2[w.H.length]? =some (.dictW []):=by rw[List.getElem?_append_right (by rw[List.length_set];exact Nat.le_refl _),List.length_set,Nat.sub_self];rfl
 have la:=(Ew.mp ha).1
 let F2:Fm:=⟨fun b=>Sx F L w b\/b=c\/b=w.H.length,H2⟩
 have tab2:gd H2 0=some .tab:=by
  have t:=r.tab
  unfold gd at t ⊢
  rw[o2 0 (Fq r.tab) fun q=>by rw[q,hc]at t;cases t];exact t
 have sF2:∀b,F2.S b->b < H2.length:=fun b s=>by
  rw[l2]
  rcases s with s | rfl | rfl
  .exact Nat.lt_succ_of_lt (s.elim (fun s=>Nat.lt_of_lt_of_le (r.sF b s) r.le) fun⟨i,c,e,_⟩=>r.lt i b e)
  .exact Nat.lt_succ_of_lt lc
  .exact Nat.lt_succ_self _
 have r2:Rl F2 [] ⟨[],H2⟩:={ tab:=tab2,t0:=fun i h=>(by cases i<;>cases h),nd:=fun i j a h=>(by cases i<;>cases h),len:=rfl,lt:=fun i a h=>(by cases i<;>cases h),sF:=sF2,le:=Nat.le_refl _,old:=fun a J J=>rfl,own:=fun i a c h=>(by cases i<;>cases h),cells:=fun i a c h=>(by cases i<;>cases h)}
 have hu:FR (Gz F2 [] ⟨[],H2⟩) (AD 9 ns (.s .none)) u:=Up (c:=c) (fun b x h hb=>⟨fun s=>s.elim (fun s=>s.elim h.1 fun s=>s.elim hb fun s=>absurd (Fq h.2) (by rw[s];exact Nat.lt_irrefl _)) fun⟨i,c,e,_⟩=>(by cases i<;>cases e),(by have:=h.2;unfold gd at this ⊢;rw[o2 b (Fq h.2) hb];exact this)⟩) (fun x h=>by rw[y1.2.symm.trans h.2 |> Option.some.inj |>.symm];trivial) Dn z1
 obtain⟨y,w3,e3,n3,q3⟩:=hcall F2 ⟨[],H2⟩ [u] r2 (.cons hu .nil)
 have o3:∀b,b < H2.length->gd w3.H b=gd H2 b:=fun b hb=>n3.r.old b hb fun i=>OZ n3.r i b
 have c3:w3.H[c]? =some (.dictP [(5,u)]):=Sd ((o3 _ (by rw[l2];exact Nat.lt_succ_of_lt lc)).trans (by unfold gd;rw[c2];rfl))
 have d3:w3.H[w.H.length]? =some (.dictW []):=DH ((o3 _ (by rw[l2];exact Nat.lt_succ_self _)).trans (by unfold gd;rw[d2];rfl))
 have l3:H2.length<=w3.H.length:=n3.r.le
 have dc:w.H.length≠c:=fun q=>absurd lc (by rw[q];exact Nat.lt_irrefl _)
 let H5:MH:=(w3.H.set w.H.length (.dictW [(5,y)])).set c (.dictW [(5,u)])
 have o5:∀b,b≠c->b≠w.H.length->gd H5 b=gd w3.H b:=fun b h1 h2=>(Fu h1).trans (Fu h2)
 have l5:H5.length=w3.H.length:=by rw[List.length_set,List.length_set]
 have k5:Nx F L w L ⟨w.ρ,H5⟩:=Ic r (by rw[l5];rw[l2]at l3;exact Nat.le_of_succ_le l3) fun b hb=>by
  by_cases h:b=c
  .subst h
   rw[EY (by rw[List.length_set];rw[l2]at l3;exact Nat.lt_of_lt_of_le (Nat.lt_succ_of_lt lc) l3)]
   exact y1.2.symm
  .rw [o5 b h (Nat.ne_of_lt hb),o3 b (by rw[l2];exact Nat.lt_succ_of_lt hb)]
   unfold gd;rw[o2 b hb h]
 refine⟨.ref w.H.length,⟨w.ρ,H5⟩,?_,k5,?_⟩
 .have ev:Ac (CS Aa d) (.call .AE [.idx (.attr (.O 0) 2) (.O 2)]) [some (.ref a),v1,some (.w 5)] H2=.ok y w3.H:=by
   have e5:Ac (CS Aa d) (.idx (.attr (.O 0) 2) (.O 2)) [some (.ref a),v1,some (.w 5)] H2=.ok u H2:=(Av (at2 H2 ((o2 a la hac).trans ha) _ rfl)).trans ((Av (m:=Ac (CS Aa d) (.O 2) [some (.ref a),v1,some (.w 5)]) (a:=V.w 5) rfl).trans (Ap c2 rfl))
   exact(Av (m:=Ep (CS Aa d) [.idx (.attr (.O 0) 2) (.O 2)] [some (.ref a),v1,some (.w 5)]) (a:=[u]) ((Av e5).trans rfl)).trans e3
  have s5:Dg (.ref w.H.length) (.w 5) y w3.H=.ok () (w3.H.set w.H.length (.dictW [(5,y)])):=Ap d3 rfl
  have st5:stays (.ref c) (.dictP [(5,u)]) (w3.H.set w.H.length (.dictW [(5,y)]))=.ok () _:=Jm ((Il dc).trans c3)
  have ea:Bv (fun x=>bnd (Ac (CS Aa d) (.call .AE [.idx (.attr (.O 0) 2) (.O 2)]) [some (.ref a),v1,some x]) fun y=>bnd (Dg (.ref w.H.length) x y) fun J=>ret (none:Option V)) (stays (.ref c) (.dictP [(5,u)])) [.w 5] H2=.ok [] (w3.H.set w.H.length (.dictW [(5,y)])):=
   (Av ((Av ev).trans ((Av s5).trans rfl))).trans ((Av st5).trans rfl)
  refine(Av (at2 w.H ha [some (.ref a),v1] rfl)).trans ((Av (m:=getD (.ref c)) (a:=[(5,u)]) (Ap hc rfl)).trans (Ia ((Av (m:=alloc (.dictW [])) (a:=V.ref w.H.length) (H':=H2) (by show R.ok (V.ref (w.H.set c (.dictP [(5,u)])).length) H2=_;rw[List.length_set])).trans ((Av (Jc ea)).trans (Ia rfl)))))
 .have q3':FR (Gz F2 [] w3) nv y:=q3
  have la5:w.H.length < w3.H.length:=by rw[l2]at l3;exact l3
  refine .n (k:= .dct [5]) (vs:=[y]) ⟨fun s=>s.elim (fun s=>absurd (r.sF _ s) (Nat.not_lt.mpr r.le)) fun⟨i,c,e,_⟩=>absurd (r.lt i _ e) (Nat.lt_irrefl _),?_⟩ (BI rfl) (.cons (FR.mono (fun b x h=> ?_) q3') .nil)
  .show gd H5 w.H.length=_
   rw[Fu dc,EY la5];rfl
  .have h1:=h.1
   exact⟨fun s=>h1 (.inl (.inl s)),(o5 b (fun q=>h1 (.inl (.inr (.inl q)))) (fun q=>h1 (.inl (.inr (.inr q))))).trans h.2⟩
end
section
variable{Aa:List Int}{d k k' kq m i j n p:Nat}{xs ys:List TV}{ns:Option (List TV)}{a x nv:TV}{st:Bool}{t q:Aj}{ts:List Aj}{key:Em}{exact:Bool}
theorem G1{m:Mine.Env->M (Option V)}{env:AA}{n:Nat}{L L':List LC}{ys:List TV}(h:Fg m env (IE 0 n) L ys L'):Fg m env (D9 0 (n:Int)) L ys L':=Mz▸h
theorem LF{m:Mine.Env->M (Option V)}{env:AA}{L:List LC}:∀{ts:List Aj},(∀t ∈ ts,Sm RV RO m (env++[some (.f t.v)]) L (.ok (some t.w) L))->Fg m env (Aj.vs ts) L (Aj.ws ts) L
 | [],_=> .nil
 | t::ts,h=> .cons (o:=some t.w) (h t (.head _)) (LF fun t ht=>h t (.tail _ ht))
theorem Gu{l:List TV}:Cj Aa (d+2) .AE [AD 9 l (.s .none)] (.n .tup [.s (.w 9),.n .lst l,.n (.dct []) []]):=QF .z fun q=>q
theorem G2:∀(n:Nat) {t:Aj},Bf st n t->Cj Aa (d+n+3) .AE [t.v] t.w:=by
 have at0:∀(d:Nat) {k:Nat} {xs:List TV} {ns:Option (List TV)},Ka k->xs.length<=8->M1 ns xs.length->Cj Aa (d+3) .AE [AD k xs (D1 ns)] (.n .tup [.s (.w k),.n .lst xs,EF ns]):=fun d {k xs ns} hk hx hn=>by
  cases ns with
  | none=>rcases hk with rfl | rfl<;>exact QF .z fun q=>q
  | some l=>rcases hk with rfl | rfl<;>exact QF .z fun q=>q (MT rfl (hn l rfl).1 Gu)
 intro n
 induction n with
 | zero=>
  intro t ht
  cases ht with
  | null=>exact QF .z fun q=>q
  | atom hk hx hn hi=>exact at0 d hk hx hn
 | succ n ih=>
  intro t ht
  cases ht with
  | null=>exact QF .z fun q=>q
  | atom hk hx hn hi=>exact at0 (d+(n+1)) hk hx hn
  | @list _ ts ns hx hn hs hts=>
   have g:∀{e1},Fg (Ww Aa (d+n+3) (.call .AE [.O 2])) [some (.f (Aj.list ts ns).v),e1] (Aj.vs ts) [.dct []] (Aj.ws ts) [.dct []]:=LF fun t h=>QM .z fun q=>q (ih (hts t h))
   cases ns with
   | none=>exact QF .z fun q=>q g
   | some l=>exact QF .z fun q=>q (MT rfl (hn l rfl).1 Gu) g
theorem GO:Cj Aa (d+1) .Br [t.w] (RK t.names):=by
 cases t with
 | null=>exact QF .z fun q=>q
 | atom k xs ns=>cases ns<;>exact QF .z fun q=>q
 | list ts ns=>cases ns<;>exact QF .z fun q=>q
noncomputable def YV:Em->V
 | .na=> .w 10
 | .num i=> .int (i:Int)
 | .nm k=> .w k
noncomputable abbrev Ca(key:Em):TV:= .s (YV key)
theorem Rj{key:Em}(h:CJ key)(hn:key≠.na):Yr (YV key) (.w 10)=some false:=by
 cases key with
 | na=>exact absurd rfl hn
 | num i=>rfl
 | nm k=>exact G0 (show k≠10 by have:=h.1;exact fun e=>qV ‹_› e (by rfl))
noncomputable def OK(ns:Option (List TV))(exact:Bool)(key:Em):TV:=match AR ns exact key with
 | .ok pl=>pl.t
 | .error e=> .s (.w e)
noncomputable abbrev gJ:ME Fn:= .and2 (.isNone true (.idx (.O 3) (.O 5))) (.starts (.idx (.O 3) (.O 5)) (.O 1))
theorem V8{l:List TV}{e0 e2 e4:Option LV}(hk:12<=k/\k < 18)(ha:l.all Ee=true):∀(xs done:List TV),l=done++xs->Fg (bA Aa d (.O 5) gJ) [e0,some (sv (.w k)),e2,some (.f (.n .lst l)),e4] (IE done.length xs.length) [] ((Qi k xs done.length).map fun(i:Nat)=> .s (.int (i:Int))) []
 | [],done,_=> .nil
 | x::xs,done,e=>by
  have hx:l[done.length]? =some x:=by rw[e,List.getElem?_append_right (Nat.le_refl _),Nat.sub_self];rfl
  have hm:Ee x=true:=List.all_eq_true.mp ha x (List.mem_of_getElem? hx)
  have go:=V8 (e0:=e0) (e2:=e2) (e4:=e4) hk ha xs (done++[x]) (by rw[e,List.append_assoc];rfl)
  rw[C1]at go
  unfold Qi
  by_cases hb:bG k x=true
  .rw [if_pos hb]
   rcases Iw hm with rfl | ⟨j,rfl,hj⟩
   .cases hb
   .exact .cons (o:=some (.s (.int (done.length:Int)))) (QI (.b (.a (.b (.b .z)))) fun q=>q hx hx ((Ig hj hk).trans (congrArg some hb))) go
  .rw [if_neg hb]
   refine .cons (o:=none) ?_ go
   rcases Iw hm with rfl | ⟨j,rfl,hj⟩
   .exact QI (.b .z) fun q=>q hx
   .exact QI (.b (.a (.b (.b .z)))) fun q=>q hx hx ((Ig hj hk).trans (congrArg some (show KK.contains (j,k)=false from Bool.eq_false_iff.mpr hb)))
theorem K5(A3:CJ key)(hn:key≠.na)(h:FN t.names):Cj Aa (d+2) .BX [t.w,Ca key,.s (.bool exact)] (OK t.names exact key):=by
 cases key with
 | na=>exact absurd rfl hn
 | num i=>
  cases i with
  | zero=>exact QF .z fun q=>q
  | succ i=>
   have e:((i+1:Nat):Int) - 1=(i:Int):=by exact qL
   have g:Cj Aa (d+2) .BX [t.w,.s (.int ((i+1:Nat):Int)),.s (.bool exact)] (.s (.int (((i+1:Nat):Int) - 1))):=QF (.b .z) fun q=>q (aK (by exact fun e=>qN e))
   rw[e]at g
   exact g
 | nm k=>
  have n0:=GO (Aa:=Aa) (d:=d) (t:=t)
  show Cj Aa (d+2) _ _ (E7 t.names k exact).t
  generalize t.names=ns at n0 h
  cases ns with
  | none=>
   by_cases h16:k=16
   .subst h16;exact QF .z fun q=>q n0
   .exact QF (.a (.b .z)) fun q=>q n0 (G0 h16)
  | some l=>
   obtain⟨h1,h2⟩:=h l rfl
   by_cases h16:k=16
   .subst h16;exact QF .z fun q=>q n0
   .cases hx:l.findIdx? (DM k)with
    | some i=>
     rw[Gn h16 hx]
     have ha:l.any (DM k)=true:=by
      obtain⟨hl,hp,_⟩:=List.findIdx?_eq_some_iff_getElem.mp hx
      exact List.any_eq_true.mpr ⟨_,List.getElem_mem hl,hp⟩
     exact QF (.a (.b (.a (.b (.b .z))))) fun q=>q n0 (G0 h16) (Hr h1) ha (Hr h1) hx
    | none=>
     rw[GD h16 hx]
     have ha:l.any (DM k)=false:=by
      rw[List.findIdx?_eq_none_iff]at hx
      exact List.any_eq_false.mpr fun x hm=>by rw[hx x hm];decide
     have g:=V8 (Aa:=Aa) (d:=d+1) (k:=k) (l:=l) (e0:=some (.f t.w)) (e2:=some (bl exact)) (e4:=none) A3 h1 l [] rfl
     cases exact with
     | true=>exact QF (.a (.b (.a (.c .z)))) fun q=>q n0 (G0 h16) (Hr h1) ha rfl (by exact zz ‹_› (by rfl)) (G1 g)
     | false=>
      show Cj Aa (d+2) _ _ (only (Qi k l 0)).t
      change Fg _ _ _ _ ((Qi k l 0).map _) _ at g
      rcases hb:Qi k l 0 with _ | ⟨j,_ | ⟨j2,r⟩⟩<;>rw[hb]at g
      .exact QF (.a (.b (.a (.c .z)))) fun q=>q n0 (G0 h16) (Hr h1) ha rfl (by exact zz ‹_› (by rfl)) (G1 g)
      .exact QF (.a (.b (.a (.c .z)))) fun q=>q n0 (G0 h16) (Hr h1) ha rfl (by exact zz ‹_› (by rfl)) (G1 g)
      .exact QF (.a (.b (.a (.c (.b .z))))) fun q=>q n0 (G0 h16) (Hr h1) ha rfl (by exact zz ‹_› (by rfl)) (G1 g) (aK (by simp only [List.length_map,List.length_cons];exact fun e=>cU e))
end
noncomputable def HY:Except Nat Aj->TV
 | .ok r=>r.w
 | .error e=> .n .lst [.s (.w 11),.s (.w e)]
section
variable{Aa:List Int}{d k k' kq m i j n p:Nat}{xs ys:List TV}{ns:Option (List TV)}{a x nv:TV}{st:Bool}{t q:Aj}{ts:List Aj}{key:Em}{exact:Bool}
theorem U2{j:Nat}(h:E7 ns j exact=.na):False:=by
 unfold E7 at h
 split at h
 .cases h
 .split at h
  .cases h
  .split at h
   .cases h
   .split at h
    .cases h
    .unfold only at h;split at h<;>cases h
theorem Ft(hn:key≠.na):AR ns exact key≠.ok .na:=fun h=>by
 cases key with
 | na=>exact hn rfl
 | num i=>cases i<;>cases h
 | nm j=>exact U2 (Except.ok.inj h)
theorem Lq(ht:Bf st m t)(A3:CJ key):Cj Aa (d+3) .A6 [t.w,Ca key,.s (.bool exact)] (HY (B1 t key exact)):=by
 have nml:FN t.names:=by
  cases ht with
  | null=>exact fun J h=>by cases h
  | atom _ hx hn=>exact hn.ok hx
  | list hx hn=>exact hn.ok hx
 by_cases hna:key=.na
 .subst hna
  cases ht with
  | null=>exact QF .z fun q=>q
  | atom hk=>rcases hk with rfl | rfl<;>exact QF .z fun q=>q
  | list=>exact QF .z fun q=>q
 .have s0:=K5 (Aa:=Aa) (d:=d) (t:=t) (exact:=exact) A3 hna nml
  have k0:=Rj A3 hna
  unfold OK at s0
  cases ht with
  | null=>exact QF .z fun q=>q
  | @atom _ k xs ns hk hx hn hi=>
   show Cj _ _ _ _ (HY ((AR ns exact key).bind (LJ (.atom k xs ns))))
   have s0:Cj Aa (d+2) .BX [(Aj.atom k xs ns).w,Ca key,.s (.bool exact)] (match AR ns exact key with | .ok pl=>pl.t | .error e=> .s (.w e)):=s0
   cases hp:AR ns exact key with
   | error e=>rw[hp]at s0;exact QF (.a (.b .z)) fun q=>q k0 s0
   | ok pl=>
    rw[hp]at s0
    cases pl with
    | na=>exact absurd hp (Ft hna)
    | no=>rcases hk with rfl | rfl<;>exact QF (.a (.b .z)) fun q=>q k0 s0
    | «at» i=>
     have h0:¬((i:Nat):Int) < 0:=Int.not_lt.mpr (Int.natCast_nonneg i)
     show Cj _ _ _ _ (HY (match xs[i]? with | none=> .error 28 | some x=> .ok (.atom k [x] none)))
     cases hx:xs[i]? with
     | none=>
      have h1:(xs.length:Int)<=(i:Int):=Int.ofNat_le.mpr (List.getElem?_eq_none_iff.mp hx)
      exact QF (.a (.b (.a (.c (.c (.b .z)))))) fun q=>q k0 s0 h0 h0 h1
     | some x=>
      have h1:¬(xs.length:Int)<=(i:Int):=fun q=>absurd (Ew.mp hx).1 (Nat.not_lt.mpr (Int.ofNat_le.mp q))
      rcases hk with rfl | rfl<;>exact QF (.a (.b (.a (.c (.c (.c (.a (.b .z)))))))) fun q=>q k0 s0 h0 h0 h1 hx
  | @list _ ts ns hx hn hs hts=>
   show Cj _ _ _ _ (HY ((AR ns exact key).bind (LJ (.list ts ns))))
   have s0:Cj Aa (d+2) .BX [(Aj.list ts ns).w,Ca key,.s (.bool exact)] (match AR ns exact key with | .ok pl=>pl.t | .error e=> .s (.w e)):=s0
   cases hp:AR ns exact key with
   | error e=>rw[hp]at s0;exact QF (.a (.b .z)) fun q=>q k0 s0
   | ok pl=>
    rw[hp]at s0
    cases pl with
    | na=>exact absurd hp (Ft hna)
    | no=>exact QF (.a (.b .z)) fun q=>q k0 s0
    | «at» i=>
     have h0:¬((i:Nat):Int) < 0:=Int.not_lt.mpr (Int.natCast_nonneg i)
     show Cj _ _ _ _ (HY (match ts[i]? with | none=> .error 28 | some x=> .ok x))
     have hw:(Aj.ws ts)[i]? =ts[i]?.map Aj.w:=by rw[Eb,List.getElem?_map]
     cases hx:ts[i]? with
     | none=>
      have h1:((Aj.ws ts).length:Int)<=(i:Int):=by rw[Eb,List.length_map];exact Int.ofNat_le.mpr (List.getElem?_eq_none_iff.mp hx)
      exact QF (.a (.b (.a (.c (.c (.b .z)))))) fun q=>q k0 s0 h0 h0 h1
     | some x=>
      have h1:¬((Aj.ws ts).length:Int)<=(i:Int):=by rw[Eb,List.length_map];exact fun q=>absurd (Ew.mp hx).1 (Nat.not_lt.mpr (Int.ofNat_le.mp q))
      rw[hx]at hw
      exact QF (.a (.b (.a (.c (.c (.c (.a (.b .z)))))))) fun q=>q k0 s0 h0 h0 h1 hw
theorem OG(hx:xs.length<=8):Cj Aa (d+1) .Bp [(Aj.atom k xs ns).w] (Do (.atom k xs ns)).w:=by
 have g:∀{env:AA},Fg (Ww Aa d (.tup [.O 1,.lst [.O 4],.dct0])) [some (.f (Aj.atom k xs ns).w),some (sv (.w k)),some (.f (.n .lst xs)),some (.f (EF ns))] xs [] (xs.map fun x=> .n .tup [.s (.w k),.n .lst [x],.n (.dct []) []]) []:=fun {env}=>Fo fun x J=>QM .z fun q=>q
 have e:(Do (.atom k xs ns)).w=.n .tup [.s (.w 7),.n .lst (xs.map fun x=> .n .tup [.s (.w k),.n .lst [x],.n (.dct []) []]),EF ns]:=by
  show TV.n .tup [_,.n .lst (Aj.ws _),_]=_
  rw[Eb,List.map_map];rfl
 rw[e]
 exact QF .z fun q=>q (g (env:=[]))
theorem S1(A3:CJ key):Cj Aa (d+2) .Co [Ca key] (Bj key):=by
 cases key with
 | na=>exact QF .z fun q=>q
 | num i=>exact QF .z fun q=>q
 | nm k=>exact QF (.b .z) fun q=>q (G0 (show k≠10 by have:=A3.1;exact fun e=>qV ‹_› e (by rfl)))
theorem Bc{e:Nat}:Cj Aa (d+1) .AW [.s (.w e)] (.n .lst [.s (.w 11),.s (.w e)]):=QF .z fun q=>q
theorem Df{n:Nat}(ht:Bf st n t):Cj Aa (d+n+4) .AW [t.v] t.w:=by
 have g:=G2 (Aa:=Aa) (d:=d) n ht
 cases t<;>exact QF .z fun q=>q g
noncomputable abbrev CB(r:List Int):List LC:=[.lst true (r.map fun i=> .s (.int i))]
theorem Vj:TR Aa (d+1) .Ao [.r 0] (CB []) (.ok (.s (.int 0)) (CB [])):=QF .z fun q=>q
theorem R4{r:List Int}:(r.map fun i=>TV.s (.int i)).all WL=true:=by
 induction r with
 | nil=>rfl
 | cons x r ih=>exact ih
theorem Uy{r:List Int}{i:Int}:TR Aa (d+1) .Ao [.r 0] (CB (r++[i])) (.ok (.s (.int i)) (CB r)):=
 QF (.c .z) fun q=>q (by rw[List.map_append];exact List.append_ne_nil_of_right_ne_nil _ (by intro h;cases h)) (List.map_append ..) R4
end
section
variable{Aa:List Int}{d k m n:Nat}{xs ys:List TV}{ns:Option (List TV)}{a x:TV}{r:List Int}
noncomputable def Ml(Aa:List Int)(d:Nat)(f:Fn)(args:List LV)(P:TV->Prop):Prop:=∀r,∃t r',P t/\TR Aa d f args (CB r) (.ok t (CB r'))
theorem YF:Ml Aa (d+1) .Ao [.r 0] fun t=>∃i:Int,t=.s (.int i):=fun r=>by
 rcases List.eq_nil_or_concat r with rfl | ⟨s,i,rfl⟩
 .exact ⟨_,[],⟨0,rfl⟩,Vj⟩
 .exact ⟨_,s,⟨i,rfl⟩,List.concat_eq_append ..▸Uy⟩
theorem Bi(k:Nat)(hk:0 < k)(r:List Int):∃(i:Int) (j:Nat) (r':List Int),j < k/\i % (k:Int)=(j:Int)/\TR Aa (d+1) .Ao [.r 0] (CB r) (.ok (.s (.int i)) (CB r')):=by
 obtain⟨t,r',⟨i,rfl⟩,h⟩:=YF (Aa:=Aa) (d:=d) r
 have h0:0<=i % (k:Int):=Int.emod_nonneg _ (by exact fun e=>qM ‹_› e)
 have h1:i % (k:Int) < (k:Int):=Int.emod_lt_of_pos _ (by exact qG ‹_›)
 exact⟨i,(i % (k:Int)).toNat,r',by exact(Int.toNat_lt ‹_›).mpr ‹_›,by exact(Int.toNat_of_nonneg ‹_›).symm,h⟩
theorem D5{m:Mine.Env->M (Option V)}{env:AA}{P:TV->Prop}{M:List LC}(h:∀x r,∃y r',P y/\Sm RV RO m (env++[some (.f x)]) (CB r++M) (.ok (some y) (CB r'++M))):∀(xs:List TV) (r:List Int),∃ys r',ys.length=xs.length/\(∀y ∈ ys,P y)/\Fg m env xs (CB r++M) ys (CB r'++M)
 | [],r=>⟨[],r,rfl,fun y h=>(by cases h),.nil⟩
 | x::xs,r=>by
  obtain⟨y,r1,p,g⟩:=h x r
  obtain⟨ys,r2,e,p2,g2⟩:=D5 h xs r1
  exact⟨y::ys,r2,congrArg (·+1) e,fun z hz=>(by cases hz with | head=>exact p | tail _ h=>exact p2 z h),.cons (o:=some y) g g2⟩
theorem Kj{n:Nat}(hn:n<=100):Ml Aa (d+2) .BO [.r 0,.f (.s (.int (n:Int)))] fun t=>∃l,t=.n .lst l/\l.length=n/\l.all Ee=true:=fun r=>by
 have el:∀(x:TV) (r:List Int),∃y r',Ee y=true/\TM Aa (d+1) (.idx (.lst [.cst (.w 12),.cst (.w 13),.cst (.w 14),.cst (.w 16),.cst .none,.cst (.w 15)]) (.bin .mod (.call .Ao [.O 0]) (.cst (.int 6)))) ([some (.r 0),some (sv (.int (n:Int)))]++[some (.f x)]) (CB r++[]) (.ok (some y) (CB r'++[])):=fun x r=>by
  obtain⟨i,j,r',hj,hm,g⟩:=Bi (Aa:=Aa) (d:=d) 6 (by decide) r
  rcases(gO hj)with rfl | rfl | rfl | rfl | rfl | rfl
  .exact ⟨.s (.w 12),r',rfl,QM .z fun q=>q g (by decide) hm⟩
  .exact ⟨.s (.w 13),r',rfl,QM .z fun q=>q g (by decide) hm⟩
  .exact ⟨.s (.w 14),r',rfl,QM .z fun q=>q g (by decide) hm⟩
  .exact ⟨.s (.w 16),r',rfl,QM .z fun q=>q g (by decide) hm⟩
  .exact ⟨.s .none,r',rfl,QM .z fun q=>q g (by decide) hm⟩
  .exact ⟨.s (.w 15),r',rfl,QM .z fun q=>q g (by decide) hm⟩
 obtain⟨ys,r',e,p,g⟩:=D5 el (D9 0 (n:Int)) r
 rw[List.length_map,ER]at e
 exact⟨.n .lst ys,r',⟨ys,rfl,e,List.all_eq_true.mpr p⟩,QF .z fun q=>q rfl (by exact zz ‹_› (by rfl)) g⟩
end
section
variable{Aa:List Int}{d k m n:Nat}{xs ys:List TV}{ns:Option (List TV)}{a x:TV}{r:List Int}
noncomputable abbrev Wa:ME Fn:= .idx (.lst [.bin .mod (.call .Ao [.O 0]) (.cst (.int 50)),.cst (.w 18)]) (.O 2)
theorem Y3{env:List (Option LV)}{M:List LC}(hM:M=[.lst false [.s (.w 8),.s (.w 9)]]){e1 e3 e4 e5:Option LV}(he:env=[some (.r 0),e1,some (il ((0:Nat):Int)),e3,e4,e5])(x:TV)(r:List Int):∃y r',(∃i:Int,y=.s (.int i)/\0<=i/\i<=100000)/\TM Aa (d+1) Wa (env++[some (.f x)]) (CB r++M) (.ok (some y) (CB r'++M)):=by
 subst hM;subst he
 obtain⟨i,j,r',hj,hm,g⟩:=Bi (Aa:=Aa) (d:=d) 50 (by decide) r
 exact⟨.s (.int (j:Int)),r',⟨_,rfl,fC hj (by decide)⟩,QM .z fun q=>q g (by decide) hm⟩
theorem Zu{env:List (Option LV)}{M:List LC}(hM:M=[.lst false [.s (.w 8),.s (.w 9)]]){e1 e3 e4 e5:Option LV}(he:env=[some (.r 0),e1,some (il ((1:Nat):Int)),e3,e4,e5])(x:TV)(r:List Int):∃y r',y=.s (.w 18)/\TM Aa (d+1) Wa (env++[some (.f x)]) (CB r++M) (.ok (some y) (CB r'++M)):=by
 subst hM;subst he
 obtain⟨i,j,r',hj,hm,g⟩:=Bi (Aa:=Aa) (d:=d) 50 (by decide) r
 exact⟨_,r',rfl,QM .z fun q=>q g (by decide) hm⟩
noncomputable abbrev FV(n:Nat)(x:TV):Prop:=∃t,x=Aj.v t/\Bf true n t
theorem La{l:List TV}{n:Nat}(h1:l.length=n)(h2:l.all Ee=true):M1 (some l) n:=fun J e=>by cases e;exact⟨h2,h1⟩
theorem HZ{n:Nat}:M1 none n:=fun J e=>by cases e
theorem JS{n kk:Nat}(hn:n<=1)(hk:kk<=1){i:Int}{r r1:List Int}(hm:i % (if 0 < n then 5 else 3)=(kk:Int))(g:TR Aa (d+4) .Ao [.r 0] (CB r) (.ok (.s (.int i)) (CB r1))):∃x r',FV n x/\TR Aa (d+5) .AZ [.r 0,.f (.s (.int (n:Int)))] (CB r) (.ok x (CB r')):=by
 obtain⟨i2,c,r2,hc,hm2,g2⟩:=Bi (Aa:=Aa) (d:=d+3) 3 (by decide) r1
 have ec:1+(c:Int)=((1+c:Nat):Int):=by rfl
 have c3:1+c<=1000:=by exact VA ‹_› (by rfl)
 have fin:∀{k:Nat} {ys:List TV} {r3:List Int},Ka k->ys.length=1+c->ys.all (fun x=>x.casesOn Vp (fun J J=>false) false)=true->(k=8->∀x ∈ ys,∃i:Int,x=.s (.int i)/\0<=i/\i<=100000)->
   (∀{i3:Int} {r4:List Int},TR Aa (d+4) .Ao [.r 0] (CB r3) (.ok (.s (.int i3)) (CB r4))->(i3 % 2=((0:Nat):Int)->TR Aa (d+5) .AZ [.r 0,.f (.s (.int (n:Int)))] (CB r) (.ok (AD k ys (.s .none)) (CB r4)))/\(i3 % 2=((1:Nat):Int)->∀{l r5},TR Aa (d+4) .BO [.r 0,.f (.s (.int (ys.length:Int)))] (CB r4) (.ok (.n .lst l) (CB r5))->TR Aa (d+5) .AZ [.r 0,.f (.s (.int (n:Int)))] (CB r) (.ok (AD k ys (D1 (some l))) (CB r5))))->∃x r',FV n x/\TR Aa (d+5) .AZ [.r 0,.f (.s (.int (n:Int)))] (CB r) (.ok x (CB r')):=fun {k ys r3} hk hy hp hi h=>by
  obtain⟨i3,b,r4,hb,hm3,g3⟩:=Bi (Aa:=Aa) (d:=d+3) 2 (by decide) r3
  have y8:ys.length<=8:=by exact dW ‹_› ‹_› (by rfl)
  have y4:ys.length<=4:=by exact dW ‹_› ‹_› (by rfl)
  rcases(Qj hb)with rfl | rfl
  .exact ⟨_,_,⟨.atom k ys none,rfl,.atom hk y8 HZ ⟨hp,fun J=>⟨y4,hi⟩⟩⟩,(h g3).1 hm3⟩
  .obtain ⟨_,r5,⟨l,rfl,hl,hla⟩,g4⟩:=Kj (Aa:=Aa) (d:=d+2) (n:=ys.length) (by exact zz ‹_› (by rfl)) r4
   exact⟨_,_,⟨.atom k ys (some l),rfl,.atom hk y8 (La hl hla) ⟨hp,fun J=>⟨y4,hi⟩⟩⟩,(h g3).2 hm3 g4⟩
 rcases(Qj (Nat.lt_succ_of_le hk))with rfl | rfl
 .obtain ⟨ys,r3,hy,hp,g3⟩:=D5 (Y3 (Aa:=Aa) (d:=d+3) (M:=[.lst false [.s (.w 8),.s (.w 9)]]) (e1:=some (il (n:Int))) (e3:=none) (e4:=none) (e5:=some (il (1+(c:Int)))) rfl rfl) (D9 0 ((1+c:Nat):Int)) r2
  rw[List.length_map,ER]at hy
  refine fin (r3:=r3) (k:=8) (.inl rfl) hy (List.all_eq_true.mpr fun x hx=>by obtain⟨i,rfl,_⟩:=hp x hx;rfl) (fun J=>hp) fun {i3 r4} g4=> ?_
  rcases(Qj (Nat.lt_succ_of_le hn))with rfl | rfl
  .exact ⟨fun h=>QF .z fun q=>q g (by decide) hm g2 (by decide) hm2 ec c3 g3 g4 (by decide) h,fun h {l r5} gn=>QF .z fun q=>q g (by decide) hm g2 (by decide) hm2 ec c3 g3 g4 (by decide) h gn⟩
  .exact ⟨fun h=>QF .z fun q=>q g (by decide) hm g2 (by decide) hm2 ec c3 g3 g4 (by decide) h,fun h {l r5} gn=>QF .z fun q=>q g (by decide) hm g2 (by decide) hm2 ec c3 g3 g4 (by decide) h gn⟩
 .obtain ⟨ys,r3,hy,hp,g3⟩:=D5 (Zu (Aa:=Aa) (d:=d+3) (M:=[.lst false [.s (.w 8),.s (.w 9)]]) (e1:=some (il (n:Int))) (e3:=none) (e4:=none) (e5:=some (il (1+(c:Int)))) rfl rfl) (D9 0 ((1+c:Nat):Int)) r2
  rw[List.length_map,ER]at hy
  refine fin (r3:=r3) (k:=9) (.inr rfl) hy (List.all_eq_true.mpr fun x hx=>by cases hp x hx;rfl) (fun h=>by cases h) fun {i3 r4} g4=> ?_
  rcases(Qj (Nat.lt_succ_of_le hn))with rfl | rfl
  .exact ⟨fun h=>QF .z fun q=>q g (by decide) hm g2 (by decide) hm2 ec c3 g3 g4 (by decide) h,fun h {l r5} gn=>QF .z fun q=>q g (by decide) hm g2 (by decide) hm2 ec c3 g3 g4 (by decide) h gn⟩
  .exact ⟨fun h=>QF .z fun q=>q g (by decide) hm g2 (by decide) hm2 ec c3 g3 g4 (by decide) h,fun h {l r5} gn=>QF .z fun q=>q g (by decide) hm g2 (by decide) hm2 ec c3 g3 g4 (by decide) h gn⟩
end
section
variable{Aa:List Int}{d k m n:Nat}{xs ys:List TV}{ns:Option (List TV)}{a x:TV}{r:List Int}
theorem V3{n:Nat}:∀{ys:List TV},(∀y ∈ ys,FV n y)->∃ts,ys=Aj.vs ts/\∀t ∈ ts,Bf true n t
 | [],_=>⟨[],rfl,fun t h=>by cases h⟩
 | y::ys,h=>by
  obtain⟨t,e,ht⟩:=h y (.head _)
  obtain⟨ts,e2,h2⟩:=V3 fun y hy=>h y (.tail _ hy)
  exact⟨t::ts,by rw[e,e2];rfl,fun u hu=>by cases hu with | head=>exact ht | tail _ h=>exact h2 u h⟩
theorem aT:Ml Aa (d+5) .AZ [.r 0,.f (.s (.int ((0:Nat):Int)))] (FV 0):=fun r=>by
 obtain⟨i,j,r1,hj,hm,g⟩:=Bi (Aa:=Aa) (d:=d+3) 3 (by decide) r
 rcases(ZV hj)with h | rfl
 .exact JS (Nat.zero_le _) h hm g
 .exact ⟨_,r1,⟨.null,rfl,.null⟩,QF .z fun q=>q g (by decide) hm⟩
theorem H9{n c:Nat}{ys:List TV}(hc:c<=4)(hy:ys.length=c)(h:∀y ∈ ys,FV n y){ns:Option (List TV)}(hn:M1 ns c):FV (n+1) (AD 7 ys (D1 ns)):=by
 obtain⟨ts,rfl,ht⟩:=V3 h
 rw[DI]at hy
 subst hy
 exact⟨.list ts ns,rfl,.list (by exact zz ‹_› (by rfl)) hn (fun J=>hc) ht⟩
theorem Wt:Ml Aa (d+6) .AZ [.r 0,.f (.s (.int ((1:Nat):Int)))] (FV 1):=fun r=>by
 obtain⟨i,j,r1,hj,hm,g⟩:=Bi (Aa:=Aa) (d:=d+4) 5 (by decide) r
 rcases(eU hj)with h | rfl | hj
 .exact JS (Nat.le_refl _) h hm g
 .exact ⟨_,r1,⟨.null,rfl,.null⟩,QF .z fun q=>q g (by decide) hm⟩
 .obtain ⟨i2,c,r2,hc,hm2,g2⟩:=Bi (Aa:=Aa) (d:=d+4) 4 (by decide) r1
  have el:∀(x:TV) (r:List Int),∃y r',FV 0 y/\TM Aa (d+5) (.call .AZ [.O 0,.bin .sub (.O 1) (.cst (.int 1))]) ([some (.r 0),some (il ((1:Nat):Int)),some (il (j:Int)),none,none,none]++[some (.f x)]) (CB r++[]) (.ok (some y) (CB r'++[])):=fun x r=>by
   obtain⟨y,r',p,h⟩:=aT (Aa:=Aa) (d:=d) r
   exact⟨y,r',p,QM .z fun q=>q h⟩
  obtain⟨ys,r3,hy,hp,g3⟩:=D5 el (D9 0 (c:Int)) r2
  rw[List.length_map,ER]at hy
  obtain⟨i3,b,r4,hb,hm3,g4⟩:=Bi (Aa:=Aa) (d:=d+4) 2 (by decide) r3
  have c1:c<=1000:=aC hc (by decide)
  rcases(Qj hb)with rfl | rfl
  .rcases hj with rfl | rfl<;>exact⟨_,r4,H9 (by omega) hy hp HZ,QF .z fun q=>q g (by decide) hm g2 (by decide) hm2 rfl c1 g3 g4 (by decide) hm3⟩
  .obtain ⟨_,r5,⟨l,rfl,hl,hla⟩,g5⟩:=Kj (Aa:=Aa) (d:=d+3) (n:=ys.length) (by exact cK ‹_› ‹_› (by rfl)) r4
   rcases hj with rfl | rfl<;>exact⟨_,r5,H9 (by omega) hy hp (La (hl.trans hy) hla),QF .z fun q=>q g (by decide) hm g2 (by decide) hm2 rfl c1 g3 g4 (by decide) hm3 g5⟩
theorem Vk:Ml Aa (d+7) .CK [.r 0] (FV 2):=fun r=>by
 obtain⟨i,j,r1,hj,hm,g⟩:=Bi (Aa:=Aa) (d:=d+5) 6 (by decide) r
 obtain⟨i2,c,r2,hc,hm2,g2⟩:=Bi (Aa:=Aa) (d:=d+5) 4 (by decide) r1
 have c1:c<=1000:=aC hc (by decide)
 rcases(eX hj)with rfl | rfl | hj
 .have el:∀(x:TV) (r:List Int),∃y r',(∃i:Int,y=.s (.int i)/\0<=i/\i<=100000)/\TM Aa (d+6) (.bin .mod (.call .Ao [.O 0]) (.cst (.int 9))) ([some (.r 0),some (il ((4:Nat):Int)),none,none]++[some (.f x)]) (CB r++[]) (.ok (some y) (CB r'++[])):=fun x r=>by
   obtain⟨i,j,r',hj,hm,g⟩:=Bi (Aa:=Aa) (d:=d+5) 9 (by decide) r
   exact⟨.s (.int (j:Int)),r',⟨_,rfl,fC hj (by decide)⟩,QM .z fun q=>q g (by decide) hm⟩
  obtain⟨ys,r3,hy,hp,g3⟩:=D5 el (D9 0 (c:Int)) r2
  rw[List.length_map,ER]at hy
  exact⟨_,r3,⟨.atom 8 ys none,rfl,.atom (.inl rfl) (by exact cK ‹_› ‹_› (by rfl)) HZ ⟨List.all_eq_true.mpr fun x hx=>by obtain⟨i,rfl,_⟩:=hp x hx;rfl,fun J=>⟨by exact cK ‹_› ‹_› (by rfl),fun J=>hp⟩⟩⟩,QF .z fun q=>q g (by decide) hm g2 (by decide) hm2 rfl c1 g3⟩
 .exact ⟨_,r1,⟨.null,rfl,.null⟩,QF .z fun q=>q g (by decide) hm⟩
 .have el:∀(x:TV) (r:List Int),∃y r',FV 1 y/\TM Aa (d+6) (.call .AZ [.O 0,.cst (.int 1)]) ([some (.r 0),some (il (j:Int)),some (il (c:Int)),none]++[some (.f x)]) (CB r++[]) (.ok (some y) (CB r'++[])):=fun x r=>by
   obtain⟨y,r',p,h⟩:=Wt (Aa:=Aa) (d:=d) r
   exact⟨y,r',p,QM .z fun q=>q h⟩
  obtain⟨ys,r3,hy,hp,g3⟩:=D5 el (D9 0 (c:Int)) r2
  rw[List.length_map,ER]at hy
  obtain⟨i3,b,r4,hb,hm3,g4⟩:=Bi (Aa:=Aa) (d:=d+5) 2 (by decide) r3
  rcases(Qj hb)with rfl | rfl
  .rcases hj with rfl | rfl | rfl | rfl<;>exact⟨_,r4,H9 (by omega) hy hp HZ,QF .z fun q=>q g (by decide) hm g2 (by decide) hm2 rfl c1 g3 g4 (by decide) hm3⟩
  .obtain ⟨_,r5,⟨l,rfl,hl,hla⟩,g5⟩:=Kj (Aa:=Aa) (d:=d+4) (n:=c) (by exact bD ‹_› (by rfl)) r4
   rcases hj with rfl | rfl | rfl | rfl<;>exact⟨_,r5,H9 (by omega) hy hp (La hl hla),QF .z fun q=>q g (by decide) hm g2 (by decide) hm2 rfl c1 g3 g4 (by decide) hm3 g5⟩
end
noncomputable abbrev Lu:List (MS Fn):=(prog .Be).body
noncomputable def Wq(k:Nat):TV:=if k=7 then .s (.w 6)else .s .none
noncomputable def Pw(k:Nat)(ys:List TV)(p:Nat):List TV:=if ys.length<=p then ys++List.replicate (p+1 - ys.length) (Wq k)else ys
inductive Wl:Nat->TV->TV->Prop
 | list {x:TV}:Wl 7 x x
 | same {k:Nat} {y a:TV}:Ka k->Wl k (.n .tup [.s (.w k),.n .lst [y],a]) y
 | dec {i:Int} {a:TV}:0<=i->i<=100000->Wl 9 (.n .tup [.s (.w 8),.n .lst [.s (.int i)],a]) (.s (.dec i))
section
variable{Aa:List Int}{d k k' kq m i j n p:Nat}{xs ys Y:List TV}{ns:Option (List TV)}{a x put wv:TV}{mo:Option Nat}
noncomputable abbrev P6(s0 key put:TV)(e3:Option LV)(k:Nat)(Y:List TV)(ns:Option (List TV))(n p:Nat):AA:=[some (.f s0),some (.f key),some (.f put),e3,some (sv (.w k)),some (.f (.n .lst Y)),some (.f (EF ns)),some (il (n:Int)),some (.f (RK ns)),some (il (p:Int)),none,some (.r 0),none]
theorem NF{s0 key:TV}{e3:Option LV}(hw:Wl k put wv)(hy:Y.length<=90)(hp:p < 100)(hl:Y.length<=p->(ns.getD (List.replicate Y.length FM)).length+(J8 mo).toList.length<=p+1):
  BL Aa d (Lu.drop 11) (P6 s0 key put e3 k Y ns Y.length p) [.lst false (J8 mo).toList] (.ok (.n .tup [.s (.w k),.n .lst ((Pw k Y p).set p wv),EF (Fb Y.length ns mo p)])):=by
 by_cases hge:Y.length<=p
 .have hl:=hl hge
  have h1:(Y.length:Int)<=(p:Int):=Int.ofNat_le.mpr hge
  have e1:Pw k Y p=Y++List.replicate (p+1 - Y.length) (Wq k):=if_pos hge
  have z0:(p:Int)+1 - (Y.length:Int)=((p+1 - Y.length:Nat):Int):=by exact gK ‹_›
  have c0:∀n:Nat,p+1 - n<=1000:=fun n=>by exact fO ‹_› (by rfl)
  have c4:Y.length<=1000:=by exact zz (b:=90) ‹_› (by rfl)
  have c5:∀{x:TV},Y.length+(List.replicate (p+1 - Y.length) x).length<=5000:=fun {x}=>by rw[List.length_replicate];exact gH ‹_› ‹_› (by rfl)
  have Ba:∀{x:TV},p < (Y++List.replicate (p+1 - Y.length) x).length:=fun {x}=>by rw[C1,List.length_replicate];exact fA ‹_›
  have c1:∀l:List TV,l.length<=p+1->((p:Int)+1) - (l.length:Int)=((p+1 - l.length:Nat):Int):=fun l h=>by exact dM ‹_›
  have c2:∀l:List TV,l.length<=p+1->l.length+(List.replicate (p+1 - l.length) FM).length<=5000:=fun l h=>by rw[List.length_replicate];exact f1 ‹_› ‹_› (by rfl)
  have c3:∀l l2:List TV,l.length+l2.length<=p+1->l.length+l2.length<=5000:=fun l l2 h=>by exact Nat.le_trans ‹_› (zz ‹_› (by rfl))
  rw[e1]
  unfold Fb
  rw[if_pos hge]
  cases ns with
  | some l=>
   cases mo with
   | none=>
    have hl:l.length+([]:List TV).length<=p+1:=hl
    have hl2:(l++([]:List TV)).length<=p+1:=by rw[C1];exact hl
    have e2:C2 l (p+1)=C2 (l++[]) (p+1):=by rw[List.append_nil]
    show BL _ _ _ _ _ (.ok (.n .tup [_,_,EF (some (C2 l (p+1)))]))
    rw[e2]
    cases hw with
    | list=>exact QZ (.b .z) fun q=>q h1 z0 (c0 _) c5 (c3 _ _ hl) (c1 _ hl2) (c0 _) (c2 _ hl2) (BI rfl) Ba
    | same hk=>rcases hk with rfl | rfl<;>exact QZ (.b .z) fun q=>q h1 z0 (c0 _) c5 (c3 _ _ hl) (c1 _ hl2) (c0 _) (c2 _ hl2) (BI rfl) Ba
    | dec hi hj=>exact QZ (.b .z) fun q=>q h1 z0 (c0 _) c5 (c3 _ _ hl) (c1 _ hl2) (c0 _) (c2 _ hl2) (BI rfl) hi hj Ba
   | some j=>
    have hl:l.length+[TV.s (.w j)].length<=p+1:=hl
    have hl2:(l++[TV.s (.w j)]).length<=p+1:=by rw[C1];exact hl
    cases hw with
    | list=>exact QZ (.b .z) fun q=>q h1 z0 (c0 _) c5 (c3 _ _ hl) (c1 _ hl2) (c0 _) (c2 _ hl2) (BI rfl) Ba
    | same hk=>rcases hk with rfl | rfl<;>exact QZ (.b .z) fun q=>q h1 z0 (c0 _) c5 (c3 _ _ hl) (c1 _ hl2) (c0 _) (c2 _ hl2) (BI rfl) Ba
    | dec hi hj=>exact QZ (.b .z) fun q=>q h1 z0 (c0 _) c5 (c3 _ _ hl) (c1 _ hl2) (c0 _) (c2 _ hl2) (BI rfl) hi hj Ba
  | none=>
   cases mo with
   | none=>
    cases hw with
    | list=>exact QZ (.b .z) fun q=>q h1 z0 (c0 _) c5 Ba
    | same hk=>rcases hk with rfl | rfl<;>exact QZ (.b .z) fun q=>q h1 z0 (c0 _) c5 Ba
    | dec hi hj=>exact QZ (.b .z) fun q=>q h1 z0 (c0 _) c5 hi hj Ba
   | some j=>
    have hl:(List.replicate Y.length FM).length+[TV.s (.w j)].length<=p+1:=hl
    have hl2:(List.replicate Y.length FM++[TV.s (.w j)]).length<=p+1:=by rw[C1];exact hl
    cases hw with
    | list=>exact QZ (.b .z) fun q=>q h1 z0 (c0 _) c5 rfl c4 (c3 _ _ hl) (c1 _ hl2) (c0 _) (c2 _ hl2) (BI rfl) Ba
    | same hk=>rcases hk with rfl | rfl<;>exact QZ (.b .z) fun q=>q h1 z0 (c0 _) c5 rfl c4 (c3 _ _ hl) (c1 _ hl2) (c0 _) (c2 _ hl2) (BI rfl) Ba
    | dec hi hj=>exact QZ (.b .z) fun q=>q h1 z0 (c0 _) c5 rfl c4 (c3 _ _ hl) (c1 _ hl2) (c0 _) (c2 _ hl2) (BI rfl) hi hj Ba
 .have h1:¬(Y.length:Int)<=(p:Int):=fun h=>hge (Int.ofNat_le.mp h)
  have e1:Pw k Y p=Y:=if_neg hge
  have Ba:p < Y.length:=Nat.lt_of_not_le hge
  rw[e1]
  unfold Fb
  rw[if_neg hge]
  cases ns with
  | some l=>
   cases hw with
   | list=>exact QZ (.c .z) fun q=>q h1 Ba
   | same hk=>rcases hk with rfl | rfl<;>exact QZ (.c .z) fun q=>q h1 Ba
   | dec hi hj=>exact QZ (.c .z) fun q=>q h1 hi hj Ba
  | none=>
   cases hw with
   | list=>exact QZ (.c .z) fun q=>q h1 Ba
   | same hk=>rcases hk with rfl | rfl<;>exact QZ (.c .z) fun q=>q h1 Ba
   | dec hi hj=>exact QZ (.c .z) fun q=>q h1 hi hj Ba
end
theorem Dv{ts:List Aj}:(Aj.ws ts).length=ts.length:=by rw[Eb,List.length_map]
theorem Sy{ts:List Aj}{p:Nat}{q:Aj}:Aj.ws ((Eh ts p).set p q)=(Pw 7 (Aj.ws ts) p).set p q.w:=by
 rw[Eb,List.map_set]
 unfold Eh Pw
 rw[Dv]
 by_cases h:ts.length<=p
 .rw [if_pos h,if_pos h,List.map_append,List.map_replicate,Eb];rfl
 .rw [if_neg h,if_neg h,Eb]
section
variable{Aa:List Int}{d k k' kq m i j n p m':Nat}{xs ys Y:List TV}{ns nq:Option (List TV)}{a x put wv:TV}{mo:Option Nat}{st:Bool}{t q:Aj}{key:Em}
theorem Wy{n:Nat}(h1:M1 ns n)(h2:n<=p->n+mo.toList.length<=p+1)(h3:n<=p):(ns.getD (List.replicate n FM)).length+(J8 mo).toList.length<=p+1:=by
 rw[Op]
 cases ns with
 | none=>rw[show(none:Option (List TV)).getD (List.replicate n FM)=List.replicate n FM from rfl,List.length_replicate];exact h2 h3
 | some l=>rw[show(some l).getD (List.replicate n FM)=l from rfl,(h1 l rfl).2];exact h2 h3
theorem OT{s0 kv:TV}(hk:Ka k)(hx:xs.length<=8)(hn:M1 ns xs.length)(hi:∀x ∈ xs,k=8->∃i:Int,x=.s (.int i)/\0<=i/\i<=100000)(hq:Bf true m' q)(hp:p < 100)(hl:xs.length<=p->xs.length+mo.toList.length<=p+1)(e0:s0=(Aj.atom k xs ns).w):
  BL Aa (d+2) (Lu.drop 10) (P6 s0 kv q.w none k xs ns xs.length p) [.lst false (J8 mo).toList] (.ok (HY (Dh (.atom k xs ns) p mo q))):=by
 have nl:=Wy hn hl
 cases hq with
 | null=>rcases hk with rfl | rfl<;>exact QZ .z fun q=>q
 | @atom _ kq ys nq hkq hys hnq hiq=>
  rcases ys with _ | ⟨y,_ | ⟨y2,r⟩⟩
  .rcases hk with rfl | rfl<;>exact QZ .z fun q=>q
  .have stay:∀{k' X tl},tl.all (fun c=> !c.bor)=true->(k'=k/\X=xs\/k'=9/\k=8/\X=xs.map JM)->Wl k' (Aj.atom kq [y] nq).w (one kq (Ea k kq) y)->Ea k kq=k'->X=xs.map (one k k')->TS Aa (d+2) ((Lu.drop 10).take 1) (P6 s0 kv (Aj.atom kq [y] nq).w none k xs ns xs.length p) [.lst false (J8 mo).toList] (.ok (P6 s0 kv (Aj.atom kq [y] nq).w none k' X ns xs.length p,none) ([.lst false (J8 mo).toList,.lst false []]++tl))->BL Aa (d+2) (Lu.drop 10) (P6 s0 kv (Aj.atom kq [y] nq).w none k xs ns xs.length p) [.lst false (J8 mo).toList] (.ok (HY (Dh (.atom k xs ns) p mo (.atom kq [y] nq)))):=fun {k' X tl} htl hX hw hK hX2 x=>by
    have hXl:X.length=xs.length:=by rw[hX2,List.length_map]
    have hk':Ka k':=by rcases hX with⟨rfl,_⟩ | ⟨rfl,_⟩;exact hk;exact .inr rfl
    have e:=NF (Aa:=Aa) (d:=d+2) (mo:=mo) (s0:=s0) (key:=kv) (e3:=none) (k:=k') hw (Y:=X) (ns:=ns) (p:=p) (by exact Nat.le_trans (Nat.le_of_eq ‹_›) (zz ‹_› (by rfl))) hp (by rw[hXl];exact nl)
    rw[hXl]at e
    have h:=BL.app (TS.cut Aa 12 1 x rfl htl rfl (Nat.le_refl 1)) e
    have e2:HY (Dh (.atom k xs ns) p mo (.atom kq [y] nq))=.n .tup [.s (.w k'),.n .lst ((Pw k' X p).set p (one kq (Ea k kq) y)),EF (Fb xs.length ns mo p)]:=by
     show TV.n .tup [.s (.w (Ea k kq)),.n .lst ((G6 (Ea k kq) (xs.map (one k (Ea k kq))) p).set p (one kq (Ea k kq) y)),EF (Fb xs.length ns mo p)]=_
     rw[hK,<-hX2]
     rcases hk' with rfl | rfl<;>rfl
    rw[e2]
    exact h
   rcases hk with rfl | rfl
   .rcases hkq with rfl | rfl
    .exact stay (tl:=[]) rfl (.inl ⟨rfl,rfl⟩) (.same (.inl rfl)) rfl Ff.symm (QS .z fun q=>q)
    .have g:Fg (Ww Aa (d+2) (.strOf (.O 13))) (P6 s0 kv (Aj.atom 9 [y] nq).w none 8 xs ns xs.length p) xs [.lst false (J8 mo).toList,.lst false []] (xs.map JM) [.lst false (J8 mo).toList,.lst false []]:=Fo fun x hm=>by
      obtain⟨i,rfl,h0,h1⟩:=hi x hm rfl
      exact QM .z fun q=>q h0 h1
     exact stay (tl:=[.fz (.n .lst (xs.map JM))]) rfl (.inr ⟨rfl,rfl,rfl⟩) (.same (.inr rfl)) rfl (congrArg (List.map · xs) (funext fun x=>(if_neg (by decide)).symm)) (QS .z fun q=>q g)
   .rcases hkq with rfl | rfl
    .obtain ⟨i,hi0,hi1,hi2⟩:=(hiq.2 rfl).2 rfl y (List.mem_cons_self ..)
     subst hi0
     exact stay (tl:=[]) rfl (.inl ⟨rfl,rfl⟩) (.dec hi1 hi2) rfl Ff.symm (QS .z fun q=>q)
    .exact stay (tl:=[]) rfl (.inl ⟨rfl,rfl⟩) (.same (.inr rfl)) rfl Ff.symm (QS .z fun q=>q)
  .have e:(1:Int) < ((y::y2::r).length:Int):=by simp only [List.length_cons];exact qG (Nat.succ_le_succ (Nat.succ_pos _))
   rcases hk with rfl | rfl<;>exact QZ (aa 5 (.b .z)) fun q=>q e
 | @list _ us nq hus hnq hs5 hts=>
  rcases us with _ | ⟨u,_ | ⟨u2,r⟩⟩
  .rcases hk with rfl | rfl<;>exact QZ .z fun q=>q
  .have x:TS Aa (d+2) ((Lu.drop 10).take 1) (P6 s0 kv (Aj.list [u] nq).w none k xs ns xs.length p) [.lst false (J8 mo).toList] (.ok (P6 s0 kv (Aj.list [u] nq).w none 7 (Aj.ws (xs.map fun x=> .atom k [x] none)) ns xs.length p,none) [.lst false (J8 mo).toList,.lst false []]):=by
    subst e0
    have f:=OG (Aa:=Aa) (d:=d+1) (k:=k) (ns:=ns) hx
    rcases hk with rfl | rfl<;>exact QS .z fun q=>q f
   have e:=NF (Aa:=Aa) (d:=d+2) (mo:=mo) (s0:=s0) (key:=kv) (e3:=none) (k:=7) (.list (x:=(Aj.list [u] nq).w)) (Y:=Aj.ws (xs.map fun x=> .atom k [x] none)) (ns:=ns) (p:=p) (by rw[Dv,List.length_map];exact zz ‹_› (by rfl)) hp (by rw[Dv,List.length_map];exact nl)
   rw[Dv,List.length_map]at e
   have h:=BL.app (TS.cut Aa 12 1 x rfl rfl rfl (Nat.le_refl 1)) e
   rw[<-Sy]at h
   exact h
  .have e:(1:Int) < ((Aj.ws (u::u2::r)).length:Int):=by rw[Dv];simp only [List.length_cons];exact qG (Nat.succ_le_succ (Nat.succ_pos _))
   rcases hk with rfl | rfl<;>exact QZ (aa 5 (.b .z)) fun q=>q e
end
section
variable{Aa:List Int}{d k k' kq m i j n p m':Nat}{xs ys Y:List TV}{ns nq:Option (List TV)}{a x put wv kv:TV}{mo:Option Nat}{st:Bool}{t q:Aj}{key:Em}{pl:Pl}
noncomputable abbrev VS(s0 kv put:TV)(k:Nat)(Y:List TV)(ns:Option (List TV))(n:Nat)(pt:TV):AA:=[some (.f s0),some (.f kv),some (.f put),none,some (sv (.w k)),some (.f (.n .lst Y)),some (.f (EF ns)),some (il (n:Int)),some (.f (RK ns)),some (.f pt),none,none,none]
theorem O7(e:t.w=.n .tup [.s (.w k),.n .lst Y,EF ns])(Dn:t.names=ns)(A3:CJ key)(hna:key≠.na)(hno:FN ns)(hp:AR ns true key=.ok pl):TS Aa (d+2) ((Lu.drop 1).take 6) [some (.f t.w),some (.f (Ca key)),some (.f q.w),none,none,none,none,none,none,none,none,none,none] [] (.ok (VS t.w (Ca key) q.w k Y ns Y.length pl.t,none) []):=by
 have n0:=GO (Aa:=Aa) (d:=d+1) (t:=t)
 have s0:=K5 (Aa:=Aa) (d:=d) (t:=t) (exact:=true) A3 hna (Dn▸hno)
 have k0:=Rj A3 hna
 unfold OK at s0
 rw[Dn]at n0 s0
 rw[hp]at s0
 rw[e]at n0 s0 ⊢
 cases pl with
 | na=>exact absurd hp (Ft hna)
 | no=>exact QS (.a (.b .z)) fun q=>q n0 k0 s0
 | «at» i=>exact QS (.a (.b .z)) fun q=>q n0 k0 s0
theorem J1{s0:TV}(hq:k=7->q≠.null)(hk:Kv k):TS Aa (d+2) ((Lu.drop 7).take 3) (VS s0 (.s (.w j)) q.w k Y ns n cQ) [] (.ok (P6 s0 (.s (.w j)) q.w none k Y ns n n,none) [.lst false (J8 (some j)).toList]):=by
 cases q with
 | null=>
      rcases hk with rfl | rfl | rfl
      .exact absurd rfl (hq rfl)
      .exact QS .z fun q=>q
      .exact QS .z fun q=>q
 | atom=>exact QS .z fun q=>q
 | list=>exact QS .z fun q=>q
theorem J6{s0:TV}(hq:k=7->q≠.null)(hk:Kv k):TS Aa (d+2) ((Lu.drop 7).take 3) (VS s0 kv q.w k Y ns n (.s (.int (i:Int)))) [] (.ok (P6 s0 kv q.w none k Y ns n i,none) [.lst false (J8 none).toList]):=by
 have h0:¬((i:Nat):Int) < 0:=Int.not_lt.mpr (Int.natCast_nonneg i)
 cases q with
 | null=>
      rcases hk with rfl | rfl | rfl
      .exact absurd rfl (hq rfl)
      .exact QS (.a (.a (.c (.c .z)))) fun q=>q h0 h0
      .exact QS (.a (.a (.c (.c .z)))) fun q=>q h0 h0
 | atom=>exact QS (.a (.c (.c .z))) fun q=>q h0 h0
 | list=>exact QS (.a (.c (.c .z))) fun q=>q h0 h0
theorem JZ{l:List TV}{i:Nat}:l.take i++l.drop (i+1)=l.eraseIdx i:=(List.eraseIdx_eq_take_drop_succ ..).symm
theorem XN{s0:TV}(hi:i < 90)(hY:Y.length<=8)(hn:∀l,ns=some l->l.length<=8):BL Aa (d+2) (Lu.drop 7) (VS s0 kv Aj.null.w 7 Y ns Y.length (.s (.int (i:Int)))) [] (.ok (if Y.length<=i then s0 else .n .tup [.s (.w 7),.n .lst (Y.eraseIdx i),EF (ns.map (·.eraseIdx i))])):=by
 have h0:¬((i:Nat):Int) < 0:=Int.not_lt.mpr (Int.natCast_nonneg i)
 by_cases hge:Y.length<=i
 .rw [if_pos hge]
  have h1:(Y.length:Int)<=(i:Int):=Int.ofNat_le.mpr hge
  exact QZ (.a (.a (.c (.b .z)))) fun q=>q h0 h1
 .rw [if_neg hge,<-JZ]
  have h1:¬(Y.length:Int)<=(i:Int):=fun h=>hge (Int.ofNat_le.mp h)
  have f1:i<=BR:=by unfold BR;exact bD ‹_› (by rfl)
  have f2:i+1<=BR:=by unfold BR;exact zz ‹_› (by rfl)
  have f3:∀{l:List TV},l.length<=8->(l.take i).length+(l.drop (i+1)).length<=5000:=fun {l} h=>by rw[List.length_take,List.length_drop];exact f9 ‹_› (by rfl)
  cases ns with
  | none=>exact QZ (.a (.a (.c (.c .z)))) fun q=>q h0 h1 f1 f2 (f3 hY)
  | some l=>
   rw[show(some l).map (·.eraseIdx i)=some (l.take i++l.drop (i+1))from congrArg some JZ.symm]
   exact QZ (.a (.a (.c (.c .z)))) fun q=>q h0 h1 f1 f2 (f3 (hn l rfl)) (BI rfl) f1 f2 (f3 hY)
theorem Mh:∀{ts:List Aj} {p:Nat},Aj.ws (ts.eraseIdx p)=(Aj.ws ts).eraseIdx p
 | [],_=>rfl
 | t::ts,0=>rfl
 | t::ts,p+1=>congrArg (List.cons t.w) Mh
theorem MR(hp:AR ns true key=.ok .no):∃j,key=.nm j:=by
 cases key with
 | na=>cases hp
 | nm j=>exact⟨j,rfl⟩
 | num i=>cases i<;>cases hp
theorem MV(hno:FN ns)(hnum:∀i,key=.num i->i<=80)(hp:AR ns true key=.ok (.at i)):i < 90:=by
 cases key with
 | na=>cases hp
 | nm j=>exact Nat.lt_of_lt_of_le (Oz hno (Except.ok.inj hp)) (by decide)
 | num n=>cases n with
  | zero=>cases hp
  | succ n=>cases hp;have:=hnum _ rfl;exact zz ‹_› (by rfl)
noncomputable abbrev Nh(s0 kv put:TV):AA:=[some (.f s0),some (.f kv),some (.f put),none,none,none,none,none,none,none,none,none,none]
theorem Q2(e:t.w=.n .tup [.s (.w k),.n .lst Y,EF ns])(Dn:t.names=ns)(A3:CJ key)(hna:key≠.na)(hno:FN ns){c:Nat}(hp:AR ns true key=.error c):BL Aa (d+2) (Lu.drop 1) (Nh t.w (Ca key) q.w) [] (.ok (.n .lst [.s (.w 11),.s (.w c)])):=by
 have n0:=GO (Aa:=Aa) (d:=d+1) (t:=t)
 have s0:=K5 (Aa:=Aa) (d:=d) (t:=t) (exact:=true) A3 hna (Dn▸hno)
 have k0:=Rj A3 hna
 unfold OK at s0
 rw[Dn]at n0 s0
 rw[hp]at s0
 rw[e]at n0 s0 ⊢
 exact QZ (.a (.b .z)) fun q=>q n0 k0 s0
theorem V9(e:t.w=.n .tup [.s (.w k),.n .lst Y,EF ns])(Dn:t.names=ns):BL Aa (d+2) (Lu.drop 1) (Nh t.w (Ca .na) q.w) [] (.ok (.n .lst [.s (.w 11),.s (.w 28)])):=by
 have n0:=GO (Aa:=Aa) (d:=d+1) (t:=t)
 rw[Dn]at n0
 rw[e]at n0 ⊢
 exact QZ .z fun q=>q n0
theorem Zr(ht:Bf true m t)(VT:t≠.null)(hq:Bf st m' q)(hsq:st=true\/∃ts ns,t=.list ts ns)(A3:CJ key)(hnum:∀i,key=.num i->i<=80):BL Aa (d+2) (Lu.drop 1) (Nh t.w (Ca key) q.w) [] (.ok (HY (Cf t key q))):=by
 cases ht with
 | null=>exact absurd rfl VT
 | @atom _ k xs ns hk hx hn hi=>
  have hst:st=true:=hsq.elim id fun⟨_,_,h⟩=>by cases h
  subst hst
  have hno:FN ns:=hn.ok hx
  have hi8:∀x ∈ xs,k=8->∃i:Int,x=.s (.int i)/\0<=i/\i<=100000:=fun x hm h=>(hi.2 rfl).2 h x hm
  have ek:Bu .na=none:=rfl
  unfold Cf
  rw[show(Aj.atom k xs ns).names=ns from rfl]
  by_cases hna:key=.na
  .subst hna;exact V9 rfl rfl
  .cases hp:AR ns true key with
   | error c=>exact Q2 (t:= .atom k xs ns) rfl rfl A3 hna hno hp
   | ok pl=>
    have s:=O7 (Aa:=Aa) (d:=d) (t:= .atom k xs ns) (q:=q) rfl rfl A3 hna hno hp
    cases pl with
    | na=>exact absurd hp (Ft hna)
    | no=>
     obtain⟨j,rfl⟩:=MR hp
     exact BL.app s (BL.app (J1 (fun h=>by exact(g8 hk h (by rfl)).elim) (.inr hk)) (OT hk hx hn hi8 hq (by exact g5 ‹_› (by rfl)) (fun J=>Nat.le_refl _) rfl))
    | «at» i=>
     have hi':=MV hno hnum hp
     exact BL.app s (BL.app (J6 (fun h=>by exact(g8 hk h (by rfl)).elim) (.inr hk)) (OT hk hx hn hi8 hq (by exact zz ‹_› (by rfl)) (fun h=>Nat.le_succ_of_le h) rfl))
 | @list _ ts ns hx hn hs hts=>
  have hno:FN ns:=hn.ok hx
  have hxw:(Aj.ws ts).length<=8:=by rw[Dv];exact hx
  unfold Cf
  rw[show(Aj.list ts ns).names=ns from rfl]
  by_cases hna:key=.na
  .subst hna;exact V9 rfl rfl
  .cases hp:AR ns true key with
   | error c=>exact Q2 (t:= .list ts ns) rfl rfl A3 hna hno hp
   | ok pl=>
    have s:=O7 (Aa:=Aa) (d:=d) (t:= .list ts ns) (q:=q) rfl rfl A3 hna hno hp
    have fin:∀{kv p mo},p < 90->(ts.length<=p->ts.length+mo.toList.length<=p+1)->BL Aa (d+2) (Lu.drop 10) (P6 (Aj.list ts ns).w kv q.w none 7 (Aj.ws ts) ns (Aj.ws ts).length p) [.lst false (J8 mo).toList] (.ok (HY (Dh (.list ts ns) p mo q))):=fun {kv p mo} hp hl=>by
     have nl:=Wy (p:=p) (mo:=mo) hn hl
     rw[<-Dv]at nl
     have e:=NF (Aa:=Aa) (d:=d+2) (mo:=mo) (s0:=(Aj.list ts ns).w) (key:=kv) (e3:=none) (k:=7) (.list (x:=q.w)) (Y:=Aj.ws ts) (ns:=ns) (p:=p) (by exact zz ‹_› (by rfl)) (by exact zz ‹_› (by rfl)) nl
     have x:TS Aa (d+2) ((Lu.drop 10).take 1) (P6 (Aj.list ts ns).w kv q.w none 7 (Aj.ws ts) ns (Aj.ws ts).length p) [.lst false (J8 mo).toList] (.ok (P6 (Aj.list ts ns).w kv q.w none 7 (Aj.ws ts) ns (Aj.ws ts).length p,none) [.lst false (J8 mo).toList]):=QS .z fun q=>q
     have h:=BL.app x e
     rw[<-Sy,Dv]at h
     rw[Dv]
     exact h
    cases pl with
    | na=>exact absurd hp (Ft hna)
    | no=>
     obtain⟨j,rfl⟩:=MR hp
     by_cases hqn:q=.null
     .subst hqn
      exact BL.app s (QZ .z fun q=>q)
     .rw [show(Except.ok Pl.no).bind (KN (.list ts ns) q (Bu (.nm j)))=Dh (.list ts ns) ts.length (some j) q by cases q<;>first | exact absurd rfl hqn | rfl]
      have f:=fin (kv:=Ca (.nm j)) (p:=ts.length) (mo:=some j) (by exact g5 ‹_› (by rfl)) (fun J=>Nat.le_refl _)
      have g:=J1 (Aa:=Aa) (d:=d) (j:=j) (k:=7) (Y:=Aj.ws ts) (ns:=ns) (n:=(Aj.ws ts).length) (s0:=(Aj.list ts ns).w) (q:=q) (fun J=>hqn) (.inl rfl)
      rw[Dv]at f g s
      exact BL.app s (BL.app g f)
    | «at» i=>
     have hi':=MV hno hnum hp
     by_cases hqn:q=.null
     .subst hqn
      have g:=XN (Aa:=Aa) (d:=d) (kv:=Ca key) (Y:=Aj.ws ts) (ns:=ns) (i:=i) (s0:=(Aj.list ts ns).w) hi' hxw (fun l h=>by rw[(hn l h).2];exact hx)
      have h:=BL.app s g
      have e:HY ((Except.ok (Pl.at i)).bind (KN (.list ts ns) .null (Bu key)))=if (Aj.ws ts).length<=i then(Aj.list ts ns).w else .n .tup [.s (.w 7),.n .lst ((Aj.ws ts).eraseIdx i),EF (ns.map (·.eraseIdx i))]:=by
       show HY (if ts.length<=i then _ else _)=_
       rw[Dv]
       by_cases hge:ts.length<=i
       .rw [if_pos hge,if_pos hge];rfl
       .rw [if_neg hge,if_neg hge]
        show TV.n .tup [.s (.w 7),.n .lst (Aj.ws (ts.eraseIdx i)),_]=_
        rw[Mh]
      rw[e]
      exact h
     .rw [show(Except.ok (Pl.at i)).bind (KN (.list ts ns) q (Bu key))=Dh (.list ts ns) i none q by cases q<;>first | exact absurd rfl hqn | rfl]
      exact BL.app s (BL.app (J6 (fun J=>hqn) (.inl rfl)) (fin (by exact zz ‹_› (by rfl)) (fun h=>Nat.le_succ_of_le h)))
theorem G3(ht:Bf true m t)(hq:Bf st m' q)(hsq:st=true\/∃ts ns,t=.list ts ns)(A3:CJ key)(hnum:∀i,key=.num i->i<=80):Cj Aa (d+3) .Be [t.w,Ca key,q.w] (HY (BP t key q)):=by
 have nn:t≠.null->Cj Aa (d+3) .Be [t.w,Ca key,q.w] (HY (Cf t key q)):=fun h0=>by
  have e:=Zr (Aa:=Aa) (d:=d) ht h0 hq hsq A3 hnum
  have x:TS Aa (d+2) (Lu.take 1) (Nh t.w (Ca key) q.w) [] (.ok (Nh t.w (Ca key) q.w,none) []):=by
   cases t with
   | null=>exact absurd rfl h0
   | atom=>exact QS .z fun q=>q
   | list=>exact QS .z fun q=>q
  exact QB (f:= .Be) (args:=[.f t.w,.f (Ca key),.f q.w]) (r:= .ok _) rfl rfl (.app (b:=Lu.take 1) x e)
 cases t with
 | list ts ns=>exact nn (by intro h;cases h)
 | atom k xs ns=>exact nn (by intro h;cases h)
 | null=>
  have st1:st=true:=hsq.elim id fun⟨_,_,h⟩=>by cases h
  have go:∀{b:Aj} {v:Option LV} {L1:List LC},Bf true 1 b->b≠.null->L1.all (fun c=> !c.bor)=true->TS Aa (d+2) (Lu.take 1) (Nh (.s (.w 6)) (Ca key) q.w) [] (.ok ((Nh b.w (Ca key) q.w).set 3 v,none) L1)->Cj Aa (d+3) .Be [.s (.w 6),Ca key,q.w] (HY (Cf b key q)):=fun {b v L1} h1 h2 h4 h3=>by
   have e:=Zr (Aa:=Aa) (d:=d) h1 h2 hq (.inl st1) A3 hnum
   exact QB (f:= .Be) (args:=[.f (.s (.w 6)),.f (Ca key),.f q.w]) (r:= .ok _) rfl rfl (.app (b:=Lu.take 1) (TS.cut Aa 3 0 h3 rfl h4 rfl (Nat.le_refl 0)) e)
  have l0:Bf true 1 (.list [] none):= .list (by decide) EV (fun J=>by decide) (fun t h=>by cases h)
  have a0:∀{k},Ka k->Bf true 1 (.atom k [] none):=fun h=> .atom h (by decide) EV ⟨rfl,fun J=>⟨by decide,fun J x h=>by cases h⟩⟩
  cases hq with
  | null=>exact QF .z fun q=>q
  | @list _ us nq hus hnq hs5 hts=>exact go (b:= .list [] none) (v:=some (bl false)) (L1:=[.fz (.n .lst []),.fz (.n (.dct []) [])]) l0 (by intro h;cases h) rfl (QS .z fun q=>q)
  | @atom _ kq ys nq hkq hys hnq hiq=>
   rcases ys with _ | ⟨y,_ | ⟨y2,r⟩⟩
   .rcases hkq with rfl | rfl<;>exact go (b:= .list [] none) (v:=some (bl false)) (L1:=[.fz (.n .lst []),.fz (.n (.dct []) [])]) l0 (by intro h;cases h) rfl (QS .z fun q=>q)
   .rcases hkq with rfl | rfl
    .exact go (b:= .atom 8 [] none) (v:=some (bl true)) (L1:=[.fz (.n .lst []),.fz (.n (.dct []) [])]) (a0 (.inl rfl)) (by intro h;cases h) rfl (QS .z fun q=>q)
    .exact go (b:= .atom 9 [] none) (v:=some (bl true)) (L1:=[.fz (.n .lst []),.fz (.n (.dct []) [])]) (a0 (.inr rfl)) (by intro h;cases h) rfl (QS .z fun q=>q)
   .have e:((y::y2::r).length:Int)≠1:=by simp only [List.length_cons];exact fun e=>cU e
    rcases hkq with rfl | rfl<;>exact go (b:= .list [] none) (v:=some (bl false)) (L1:=[.fz (.n .lst []),.fz (.n (.dct []) [])]) l0 (by intro h;cases h) rfl (QS (aa 5 (.b .z)) fun q=>q (aK e))
end
noncomputable abbrev VH(x:TV):Bool:=x.casesOn Vp (fun J J=>false) false
section
variable{k k' kq m i j n p m':Nat}{xs ys Y:List TV}{ns nq:Option (List TV)}{a x:TV}{mo:Option Nat}{st:Bool}{t q r:Aj}{key:Em}{pl:Pl}
theorem F6{l:List TV}{sz:Nat}(h:l.length<=sz):(C2 l sz).length=sz:=by
 unfold C2;rw[C1,List.length_replicate];exact Nat.add_sub_cancel' ‹_›
theorem KH{α:Type}{f:α->Bool}{x:α}(h:f x=true):∀n,(List.replicate n x).all f=true
 | 0=>rfl
 | n+1=>by rw[List.replicate_succ,List.all_cons,h,KH h n];rfl
theorem Hl{l:List TV}{sz:Nat}(h:l.all Ee=true):(C2 l sz).all Ee=true:=by
 unfold C2;rw[List.all_append,h,KH (by decide)];rfl
theorem Ol(hn:M1 ns n)(hmo:∀j,mo=some j->12<=j/\j < 18)(hl:n<=p->n+mo.toList.length<=p+1):M1 (Fb n ns mo p) (max n (p+1)):=by
 have hj:∀j,mo=some j->Ee (.s (.w j))=true:=fun j h=>decide_eq_true (hmo j h)
 unfold Fb
 by_cases h:n<=p
 .rw [if_pos h,Nat.max_eq_right (by exact Nat.le_succ_of_le ‹_›)]
  have hl:=hl h
  intro l' e
  cases ns with
  | none=>cases mo with
   | none=>cases e
   | some j=>
    cases e
    refine⟨Hl ?_,F6 ?_⟩
    .rw [List.all_append,KH (by decide),List.all_cons,hj j rfl];rfl
    .rw [C1,List.length_replicate];exact hl
  | some l=>cases mo with
   | none=>cases e;exact⟨Hl (hn l rfl).1,F6 (by rw[(hn l rfl).2];exact Nat.le_succ_of_le ‹_›)⟩
   | some j=>
    cases e
    refine⟨Hl ?_,F6 ?_⟩
    .rw [List.all_append,(hn l rfl).1,List.all_cons,hj j rfl];rfl
    .rw [C1,(hn l rfl).2];exact hl
 .rw [if_neg h,Nat.max_eq_left (by exact Nat.gt_of_not_le ‹_›)];exact hn
theorem SO:(G6 k xs p).length=max xs.length (p+1):=by
 unfold G6;split
 .rw [C1,List.length_replicate];exact fM ‹_›
 .exact fH ‹_›
theorem PH{ts:List Aj}:(Eh ts p).length=max ts.length (p+1):=by
 unfold Eh;split
 .rw [C1,List.length_replicate];exact fM ‹_›
 .exact fH ‹_›
theorem Pq{α:Type}{P:α->Prop}{l:List α}{y:α}(h:∀x ∈ l,P x)(hy:P y):∀x ∈ l.set i y,P x:=fun x hx=>by
 rcases List.mem_or_eq_of_mem_set hx with h1 | h1
 .exact h x h1
 .exact h1▸hy
theorem YD(h:VH x=true):VH (JM x)=true:=by
 cases x with
 | s v=>cases v<;>first | rfl | exact h
 | n=>exact h
 | u=>exact h
theorem Rm(h:VH x=true):VH (one k k' x)=true:=by
 unfold one;split
 .exact h
 .exact YD h
theorem QW{ts:List Aj}(h:∀t ∈ ts,Bf false n t):∀t ∈ Eh ts p,Bf false n t:=fun t ht=>by
 unfold Eh at ht;split at ht
 .rcases List.mem_append.mp ht with h1 | h1
  .exact h t h1
  .rw [List.eq_of_mem_replicate h1];exact .null
 .exact h t ht
theorem IC:M1 none n:=fun J h=>by cases h
theorem LH(ht:Bf true m t)(hq:Bf st m' q)(hp:p<=6)(hmo:∀j,mo=some j->12<=j/\j < 18)(hl:t.len<=p->t.len+mo.toList.length<=p+1)(h:Dh t p mo q=.ok r):Bf false (max m (m'+1)) r:=by
 have go:∀{d0 D:Nat} {ts:List Aj} {ns:Option (List TV)},ts.length<=8->M1 ns ts.length->(∀t ∈ ts,Bf false D t)->Bf st D q->(ts.length<=p->ts.length+mo.toList.length<=p+1)->Bf false (D+1) (.list ((Eh ts p).set p q) (Fb ts.length ns mo p)):=fun {d0 D ts ns} h1 h2 h3 h4 h5=>by
  have e:((Eh ts p).set p q).length=max ts.length (p+1):=by rw[List.length_set,PH]
  exact .list (by exact qW ‹_› ‹_› ‹_› (by rfl)) (by rw[e];exact Ol h2 hmo h5) (fun h=>by cases h) (Pq (QW h3) h4.weak)
 cases ht with
 | null=>cases h;exact .null
 | @list d0 ts ns hx hn hs hts=>
  cases h
  exact(go (d0:=0) (D:=max d0 m') hx hn (fun t ht=>(hts t ht).weak.le (by exact Nat.le_max_left _ _)) (hq.le (by exact Nat.le_max_right _ _)) hl).le (by exact Nat.le_of_eq (Nat.succ_max_succ _ _).symm)
 | @atom _ k xs ns hk hx hn hi=>
  cases hq with
  | null=>cases h
  | @atom _ kq ys nq hkq hys hnq hiq=>
   rcases ys with _ | ⟨y,_ | ⟨y2,r⟩⟩
   .cases h
   .cases h
    have hl:xs.length<=p->xs.length+mo.toList.length<=p+1:=hl
    have e:((G6 (Ea k kq) (xs.map (one k (Ea k kq))) p).set p (one kq (Ea k kq) y)).length=max xs.length (p+1):=by rw[List.length_set,SO,List.length_map]
    refine .atom NQ (by exact qW ‹_› ‹_› ‹_› (by rfl)) (by rw[e];exact Ol hn hmo hl) ⟨?_,fun h=>by cases h⟩
    rw[List.all_eq_true]
    have hv:∀x ∈ xs,VH x=true:=List.all_eq_true.mp hi.1
    have hm:∀x ∈ xs.map (one k (Ea k kq)),VH x=true:=fun x hx=>by
     obtain⟨z,hz,rfl⟩:=List.mem_map.mp hx
     exact Rm (hv z hz)
    refine Pq (P:=fun x=>VH x=true) (fun x hx=> ?_) (Rm (List.all_eq_true.mp hiq.1 y (.head _)))
    unfold G6 at hx;split at hx
    .rcases List.mem_append.mp hx with h1 | h1
     .exact hm x h1
     .rw [List.eq_of_mem_replicate h1]
      rcases(NQ:Ka (Ea k kq))with h | h<;>rw[h]<;>rfl
    .exact hm x hx
   .cases h
  | @list d1 us nq hus hnq hs5 hts=>
   rcases us with _ | ⟨u,_ | ⟨u2,r⟩⟩
   .cases h
   .cases h
    have g:=go (d0:=0) (D:=d1+1) (ts:=xs.map fun x=> .atom k [x] none) (ns:=ns) (by rw[List.length_map];exact hx) (by rw[List.length_map];exact hn) (fun t ht=>by
     obtain⟨z,hz,rfl⟩:=List.mem_map.mp ht
     exact .atom hk (by simp) IC ⟨by rw[List.all_cons,List.all_eq_true.mp hi.1 z hz];rfl,fun h=>by cases h⟩) (Bf.le (.list hus hnq hs5 hts) (by exact Nat.le_refl _)) (by rw[List.length_map];exact hl)
    rw[List.length_map]at g
    exact g.le (by exact Nat.le_max_right _ _)
   .cases h
theorem FD(ht:Bf true m t)(hq:Bf st m' q)(A3:CJ key)(hnum:∀i,key=.num i->i<=7)(h:Cf t key q=.ok r):Bf false (max m (m'+1)) r:=by
 have hl4:t.len<=4:=by
  cases ht with
  | null=>exact Nat.zero_le _
  | atom _ _ _ hi=>exact(hi.2 rfl).1
  | list _ _ hs=>exact hs rfl
 have hmo:∀j,Bu key=some j->12<=j/\j < 18:=fun j e=>by
  cases key with
  | nm k=>cases e;exact A3
  | _=>cases e
 have hn:∀l,t.names=some l->l.length=t.len:=fun l e=>by
  cases ht with
  | null=>cases e
  | atom _ _ hn=>exact(hn l e).2
  | list _ hn=>exact(hn l e).2
 unfold Cf at h
 cases hp:AR t.names true key with
 | error c=>rw[hp]at h;cases h
 | ok pl=>
  rw[hp]at h
  have h:KN t q (Bu key) pl=.ok r:=h
  cases pl with
  | na=>cases h
  | no=>
   have hml:(Bu key).toList.length<=1:=by cases key<;>simp[Bu]
   have put:Dh t t.len (Bu key) q=.ok r->Bf false (max m (m'+1)) r:=fun h=>LH ht hq (by exact zz ‹_› (by rfl)) hmo (fun J=>by exact Nat.add_le_add_left ‹_› _) h
   cases t with
   | null=>exact put h
   | atom=>exact put h
   | list ts ns=>cases q with
    | null=>cases h;exact ht.weak.le (by exact Nat.le_max_left _ _)
    | atom=>exact put h
    | list=>exact put h
  | «at» i=>
   have hi:i<=6:=by
    cases key with
    | na=>cases hp
    | nm j=>
     have e:E7 t.names j true=.at i:=Except.ok.inj hp
     cases Dn:t.names with
     | none=>rw[Dn]at e;cases e
     | some l=>
      rw[Dn]at e
      by_cases h16:j=16
      .subst h16;cases e
      .cases hx:l.findIdx? (DM j)with
       | none=>rw[GD h16 hx]at e;cases e
       | some j'=>
        rw[Gn h16 hx]at e
        cases e
        have:=(List.findIdx?_eq_some_iff_getElem.mp hx).1
        have:=hn l Dn
        exact qU ‹_› ‹_› ‹_› (by rfl)
    | num n=>cases n with
     | zero=>cases hp
     | succ n=>cases hp;have:=hnum _ rfl;exact Nat.le_of_lt_succ ‹_›
   have put:Dh t i none q=.ok r->Bf false (max m (m'+1)) r:=fun h=>LH (mo:=none) ht hq hi (fun j h=>by cases h) (fun h=>Nat.le_succ_of_le h) h
   cases t with
   | null=>exact put h
   | atom=>exact put h
   | list ts ns=>cases q with
    | null=>
     have h:(if ts.length<=i then Except.ok (Aj.list ts ns)else .ok (.list (ts.eraseIdx i) (ns.map (·.eraseIdx i))))=.ok r:=h
     split at h
     .cases h;exact ht.weak.le (by exact Nat.le_max_left _ _)
     .cases h
      cases ht with
      | @list d0 _ _ hx hn hs hts=>
       refine Bf.le (n:=d0+1) (.list (by rw[List.length_eraseIdx];split<;>omega) ?_ (fun h=>by cases h) fun t ht=>(hts t (List.mem_of_mem_eraseIdx ht)).weak) (by exact Nat.le_max_left _ _)
       intro l e
       cases ns with
       | none=>cases e
       | some l0=>
        cases e
        refine⟨List.all_eq_true.mpr fun x hx=>List.all_eq_true.mp (hn l0 rfl).1 x (List.mem_of_mem_eraseIdx hx),?_⟩
        rw[List.length_eraseIdx,List.length_eraseIdx,(hn l0 rfl).2]
    | atom=>exact put h
    | list=>exact put h
theorem ID(ht:Bf true m t)(hq:Bf st m' q)(A3:CJ key)(hnum:∀i,key=.num i->i<=7)(h:BP t key q=.ok r):Bf false (max m (m'+1)) r:=by
 have l0:Bf true 1 (.list [] none):= .list (by decide) EV (fun J=>by decide) (fun t h=>by cases h)
 have a0:∀{k},Ka k->Bf true 1 (.atom k [] none):=fun h=> .atom h (by decide) EV ⟨rfl,fun J=>⟨by decide,fun J x h=>by cases h⟩⟩
 cases t with
 | list ts ns=>exact(FD ht hq A3 hnum h).le (by exact Nat.le_refl _)
 | atom k xs ns=>exact(FD ht hq A3 hnum h).le (by exact Nat.le_refl _)
 | null=>cases q with
  | null=>cases h;exact .null
  | list=>exact(FD l0 hq A3 hnum h).le (by exact Nat.le_max_right _ _)
  | atom kq ys nq=>
   have hkq:Ka kq:=by cases hq;assumption
   rcases ys with _ | ⟨y,_ | ⟨y2,r⟩⟩
   .exact (FD l0 hq A3 hnum h).le (by exact Nat.le_max_right _ _)
   .exact (FD (a0 hkq) hq A3 hnum h).le (by exact Nat.le_max_right _ _)
   .exact (FD l0 hq A3 hnum h).le (by exact Nat.le_max_right _ _)
end
section
variable{k n f:Nat}{xs:List TV}{ns:Option (List TV)}{x:TV}{st:Bool}{t:Aj}
theorem GN{n:Nat}:∀{xs:List TV} {f:Nat},(∀x ∈ xs,∀g,n<=g->LO g x=true)->n+xs.length+1<=f->Na f xs=true
 | [],f+1,_,_=>rfl
 | x::xs,f+1,h,hf=>(PQ _ _).mpr ⟨h x (.head _) f (by simp only [List.length_cons]at hf;exact Nat.le_trans (Nat.le_add_right _ _) (Nat.le_of_succ_le_succ ‹_›)),GN (fun y hy=>h y (.tail _ hy)) (by simp only [List.length_cons]at hf;exact Nat.le_of_lt_succ ‹_›)⟩
theorem Wo{v:V}(h:Vp v=true):∀g,1<=g->LO g (.s v)=true:=fun g hg=>by
 obtain⟨g,rfl⟩:∃g',g=g'+1:=⟨g - 1,by exact qF ‹_› (by rfl)⟩
 exact h
theorem Sn(h:VH x=true):∀g,1<=g->LO g x=true:=by
 cases x with
 | s v=>exact Wo h
 | n=>cases h
 | u=>cases h
theorem Zc(h:Ee x=true):VH x=true:=by
 cases x with
 | s v=>cases v<;>first | rfl | cases h
 | n=>cases h
 | u=>cases h
theorem WH{g:Nat}(h:Na g xs=true):LO (g+1) (.n .lst xs)=true:=h
theorem Pj(h:∀l,ns=some l->l.all Ee=true/\l.length<=8):∀g,16<=g->LO g (EF ns)=true:=fun g hg=>by
 obtain⟨g,rfl⟩:∃g',g=g'+7:=⟨g - 7,by exact qF ‹_› (by rfl)⟩
 cases ns with
 | none=>rfl
 | some l=>
  obtain⟨h1,h2⟩:=h l rfl
  have e:=GN (n:=1) (xs:=l) (f:=g+2) (fun x hx=>Sn (Zc (List.all_eq_true.mp h1 x hx))) (by exact gP ‹_› ‹_› (by rfl))
  show(true&&(Na (g+2) l&&_))=true
  rw[e];rfl
theorem WG{g:Nat}(h1:LO (g+6) (.n .lst xs)=true)(h2:LO (g+5) (EF ns)=true):LO (g+9) (.n .tup [.s (.w k),.n .lst xs,EF ns])=true:=by
 show(true&&(LO (g+6) (.n .lst xs)&&(LO (g+5) (EF ns)&&_)))=true
 rw[h1,h2];rfl
theorem LQ(h:Bf st n t):∀g,13 * n+20<=g->LO g t.w=true:=by
 induction h with
 | null=>exact fun g hg=>Wo rfl g (by exact qA ‹_› (by rfl))
 | @atom d k xs ns hk hx hn hi=>
  intro g hg
  obtain⟨g,rfl⟩:∃g',g=g'+9:=⟨g - 9,by exact qE ‹_› (by rfl)⟩
  exact WG (WH (GN (n:=1) (fun x hx=>Sn (List.all_eq_true.mp hi.1 x hx)) (by exact qC ‹_› ‹_› (by rfl)))) (Pj (fun l e=>⟨(hn l e).1,by rw[(hn l e).2];exact hx⟩) _ (by exact qB ‹_› (by rfl)))
 | @list d ts ns hx hn hs hts ih=>
  intro g hg
  obtain⟨g,rfl⟩:∃g',g=g'+9:=⟨g - 9,by exact qE ‹_› (by rfl)⟩
  refine WG (WH (GN (n:=13 * d+20) ?_ (by rw[Dv];exact h2 ‹_› ‹_›))) (Pj (fun l e=>⟨(hn l e).1,by rw[(hn l e).2];exact hx⟩) _ (by exact qB ‹_› (by rfl)))
  rw[Eb]
  intro x hx g hg
  obtain⟨t,ht,rfl⟩:=List.mem_map.mp hx
  exact ih t ht g hg
theorem FW{r:Except Nat Aj}(h:∀t,r=.ok t->∃n,n<=3/\Bf st n t):LO 64 (HY r)=true:=by
 cases r with
 | error e=>rfl
 | ok t=>obtain⟨n,hn,h⟩:=h t rfl;exact LQ h 64 (by exact Nat.le_trans (Nat.add_le_add_right (Nat.mul_le_mul_left _ ‹_›) _) (Nat.le_of_ble_eq_true (by rfl)))
end
section
variable{Aa:List Int}{d k n:Nat}{c:LC}
noncomputable abbrev BW(r:List Int):List TV:=r.map fun i=> .s (.int i)
noncomputable abbrev dC:List (MS Fn):=[.ifs (.cmp .gt (.O 3) (.cst (.int 0))) [.ex (.append (.O 1) (.bin .mod (.O 3) (.cst (.int 1024)))),.asg 3 (.bin .fdiv (.O 3) (.cst (.int 1024)))] []]
theorem Ob{e0 e2:Option LV}:∀(zs:List TV) (r:List Int) (v:Int) (e4:Option LV),r.length+zs.length<=4000->∃r' v' e4',r'.length<=r.length+zs.length/\DL (Am (CS Aa d) dC) 4 zs [e0,some (.r 0),e2,some (il v),e4] [.lst false (BW r),c] (.ok ([e0,some (.r 0),e2,some (il v'),e4'],none) [.lst false (BW r'),c])
 | [],r,v,e4,_=>⟨r,v,e4,Nat.le_refl _,.nil⟩
 | z::zs,r,v,e4,h=>by
  by_cases hv:0 < v
  .have e:(r++[v % 1024]).length=r.length+1:=by rw[C1];rfl
   obtain⟨r',v',e4',h1,g⟩:=Ob zs (r++[v % 1024]) (v / 1024) (some (.f z)) (by rw[e];simp only [List.length_cons]at h;omega)
   have x:TS Aa d dC [e0,some (.r 0),e2,some (il v),some (.f z)] [.lst false (BW r),c] (.ok ([e0,some (.r 0),e2,some (il (v / 1024)),some (.f z)],none) [.lst false (BW (r++[v % 1024])),c]):=by
    have hl:(BW r).length < 5000:=by rw[List.length_map];simp only [List.length_cons]at h;exact qQ ‹_› (by rfl)
    unfold BW
    rw[List.map_append]
    exact QS (.b .z) fun q=>q hv (by decide) rfl hl rfl
   exact⟨r',v',e4',by rw[e]at h1;simp only [List.length_cons];exact qO ‹_›,.next x g⟩
  .obtain ⟨r',v',e4',h1,g⟩:=Ob zs r v (some (.f z)) (by simp only [List.length_cons]at h;omega)
   exact⟨r',v',e4',by simp only [List.length_cons];exact Nat.le_succ_of_le ‹_›,.next (QS (.c .z) fun q=>q hv) g⟩
noncomputable abbrev Xx:List (MS Fn):=[.asg 3 (.ite (.cmp .ge (.O 2) (.cst (.int 0))) (.O 2) (.bin .sub (.cst (.int 7)) (.O 2))),.ex (.append (.O 1) (.bin .mod (.O 3) (.cst (.int 1024)))),.asg 3 (.bin .fdiv (.O 3) (.cst (.int 1024))),.forN 4 (.cst (.int 30)) dC]
theorem OJ{e0:Option LV}:∀(zs:List Int) (r:List Int) (e2 e3 e4:Option LV),r.length+31 * zs.length<=4000->∃r' e2' e3' e4',DL (Am (CS Aa d) Xx) 2 (BW zs) [e0,some (.r 0),e2,e3,e4] [.lst false (BW r),c] (.ok ([e0,some (.r 0),e2',e3',e4'],none) [.lst false (BW r'),c])
 | [],r,e2,e3,e4,_=>⟨r,e2,e3,e4,.nil⟩
 | z::zs,r,e2,e3,e4,h=>by
  have go:∀v:Int,(∀{out},(TS Aa d (Xx.drop 1) [e0,some (.r 0),some (il z),some (il v),e4] [.lst false (BW r),c] out->TS Aa d Xx [e0,some (.r 0),some (il z),e3,e4] [.lst false (BW r),c] out))->∃r' e2' e3' e4',DL (Am (CS Aa d) Xx) 2 (BW (z::zs)) [e0,some (.r 0),e2,e3,e4] [.lst false (BW r),c] (.ok ([e0,some (.r 0),e2',e3',e4'],none) [.lst false (BW r'),c]):=fun v hv=>by
   have l1:(r++[v % 1024]).length=r.length+1:=by rw[C1];rfl
   have l30:(D9 0 ((30:Nat):Int)).length=30:=rfl
   obtain⟨r1,v1,e1,h1,g⟩:=Ob (Aa:=Aa) (d:=d) (e0:=e0) (e2:=some (il z)) (D9 0 ((30:Nat):Int)) (r++[v % 1024]) (v / 1024) e4 (by rw[l1,l30];simp only [List.length_cons]at h;omega)
   rw[l1,l30]at h1
   have x:TS Aa d (Xx.drop 1) [e0,some (.r 0),some (il z),some (il v),e4] [.lst false (BW r),c] (.ok ([e0,some (.r 0),some (il z),some (il v1),e1],none) [.lst false (BW r1),c]):=by
    have hl:(BW r).length < 5000:=by rw[List.length_map];simp only [List.length_cons]at h;exact qQ ‹_› (by rfl)
    unfold BW at g ⊢
    rw[List.map_append]at g
    exact QS .z fun q=>q (by decide) rfl hl rfl rfl (by decide) g
   obtain⟨r',e2',e3',e4',g2⟩:=OJ zs r1 (some (il z)) (some (il v1)) e1 (by simp only [List.length_cons]at h;omega)
   exact⟨r',e2',e3',e4',.next (hv x) g2⟩
  by_cases hz:0<=z
  .exact go z fun {out} x=>by
    have y:TS Aa d (Xx.take 1) [e0,some (.r 0),some (il z),e3,e4] [.lst false (BW r),c] (.ok ([e0,some (.r 0),some (il z),some (il z),e4],none) [.lst false (BW r),c]):=QS (.b .z) fun q=>q hz
    exact y.app x
  .exact go (7 - z) fun {out} x=>by
    have y:TS Aa d (Xx.take 1) [e0,some (.r 0),some (il z),e3,e4] [.lst false (BW r),c] (.ok ([e0,some (.r 0),some (il z),some (il (7 - z)),e4],none) [.lst false (BW r),c]):=QS (.c .z) fun q=>q hz
    exact y.app x
noncomputable abbrev Fk:List (MS Fn):=(prog .AY).body
noncomputable abbrev YH(o:Option LV):AA:=[some (sv .ext),o,none,none,none,none,none,none,none,none,none,none,none,none,none,none,none,none,none]
theorem Zy:∃r r0 t0,TS Aa (d+1) (Fk.take 1) (YH none) [] (.ok (YH (some (.r 2)),none) [.lst false r0,.fz t0,.lst false (BW r)]):=by
 obtain⟨r,e2,e3,e4,g⟩:=OJ (Aa:=Aa) (d:=d) (e0:=some (sv .ext)) (c:= .fz (.n .lst (BW (Aa.take 40)))) (Aa.take 40) [] none none none (by rw[List.length_take];simp only [List.length_nil];exact q4)
 refine⟨(r.take 160).reverse,BW r,.n .lst (BW (Aa.take 40)),?_⟩
 have e:BW (r.take 160).reverse=((BW r).take 160).reverse:=by unfold BW;rw[List.map_reverse,List.map_take]
 rw[e]
 exact QS .z fun q=>q rfl rfl g (BI rfl)
noncomputable abbrev Ot(t q:Aj):AA:=[some (sv .ext),some (.r 2),some (.f t.v),some (.f q.v),some (.f t.w),some (.f q.w),some (il (t.len:Int)),none,none,none,none,none,none,none,none,none,none,none,none]
noncomputable abbrev Yg(r0:List TV)(t0:TV)(r:List Int):List LC:=[.lst false r0,.fz t0,.lst false (BW r)]
theorem ZF{r0:List TV}{t0:TV}{r:List Int}:∃t q r',Bf true 2 t/\Bf true 1 q/\TS Aa (d+7) ((Fk.drop 1).take 5) (YH (some (.r 2))) (Yg r0 t0 r) (.ok (Ot t q,none) (Yg r0 t0 r')):=by
 obtain⟨_,r1,⟨t,rfl,ht⟩,g1⟩:=Vk (Aa:=Aa) (d:=d) r
 obtain⟨_,r2,⟨q,rfl,hq⟩,g2⟩:=Wt (Aa:=Aa) (d:=d+1) r1
 have v1:=G2 (Aa:=Aa) (d:=d+2) 2 ht
 have v2:=G2 (Aa:=Aa) (d:=d+3) 1 hq
 refine⟨t,q,r2,ht,hq,?_⟩
 cases t with
 | null=>exact QS .z fun q=>q g1 g2 v1 v2
 | atom k xs ns=>exact QS .z fun q=>q g1 g2 v1 v2
 | list ts ns=>
  have e:(Aj.list ts ns).len=(Aj.ws ts).length:=Dv.symm
  unfold Ot
  rw[e]
  exact QS .z fun q=>q g1 g2 v1 v2
end
section
variable{Aa:List Int}{d k n m m':Nat}{t q r:Aj}{key:Em}{st exact:Bool}{r0:List TV}{t0:TV}{rr:List Int}{x5:List TV}{y5:TV}
theorem FC(ht:Bf st m t)(h:B1 t key exact=.ok r):Bf false m r:=by
 cases ht with
 | null=>cases h;exact .null
 | @atom _ k xs ns hk hx hn hi=>
  have h:(AR ns exact key).bind (LJ (.atom k xs ns))=.ok r:=h
  cases hp:AR ns exact key with
  | error c=>rw[hp]at h;cases h
  | ok pl=>
   rw[hp]at h
   have h:LJ (.atom k xs ns) pl=.ok r:=h
   cases pl with
   | na=>cases h;exact .atom hk (by decide) IC ⟨rfl,fun h=>by cases h⟩
   | no=>cases h
   | «at» i=>
    have h:(match xs[i]? with | none=> .error 28 | some x=> .ok (Aj.atom k [x] none))=Except.ok r:=h
    cases hx:xs[i]? with
    | none=>rw[hx]at h;cases h
    | some x=>
     rw[hx]at h;cases h
     exact .atom hk (by simp) IC ⟨by rw[List.all_cons,List.all_eq_true.mp hi.1 x (List.mem_of_getElem? hx)];rfl,fun h=>by cases h⟩
 | @list d0 ts ns hx hn hs hts=>
  have h:(AR ns exact key).bind (LJ (.list ts ns))=.ok r:=h
  cases hp:AR ns exact key with
  | error c=>rw[hp]at h;cases h
  | ok pl=>
   rw[hp]at h
   have h:LJ (.list ts ns) pl=.ok r:=h
   cases pl with
   | na=>cases h;exact .null
   | no=>cases h;exact .null
   | «at» i=>
    have h:(match ts[i]? with | none=> .error 28 | some x=> .ok x)=Except.ok r:=h
    cases hx:ts[i]? with
    | none=>rw[hx]at h;cases h
    | some x=>rw[hx]at h;cases h;exact(hts _ (List.mem_of_getElem? hx)).weak.le (by exact Nat.le_succ _)
noncomputable abbrev A4(r0:List TV)(t0:TV)(r:List Int)(x:List TV)(y:TV):List LC:=[.lst false r0,.fz t0,.lst false (BW r),.lst false x,.fz y]
noncomputable abbrev Et(t q:Aj)(key:Em)(o8 o9:Option LV):AA:=[some (sv .ext),some (.r 2),some (.f t.v),some (.f q.v),some (.f t.w),some (.f q.w),some (il (t.len:Int)),some (.f (Ca key)),o8,o9,none,none,none,none,none,none,none,none,none]
noncomputable abbrev Qa:List (MS Fn):=[.asg 8 (.call .Co [.O 7]),.forE 9 (.lst [.cst (.bool true),.cst (.bool false)]) [.ifs (.cmp .ne (.call .AW [.kept (.call .Bd [.O 2,.lst [.O 8],.O 9])]) (.call .A6 [.O 4,.O 7,.O 9])) [.bad] []],.ifs (.cmp .ne (.call .AW [.kept (.call .Ay [.O 2,.lst [.O 8],.O 3,.lst []])]) (.call .Be [.O 4,.O 7,.O 5])) [.bad] [],.ifs (.or2 (.cmp .ne (.call .AE [.O 2]) (.O 4)) (.cmp .ne (.call .AE [.O 3]) (.O 5))) [.bad] []]
noncomputable abbrev XI:List (MS Fn):=[.ifs (.cmp .ne (.call .AW [.kept (.call .Bd [.O 2,.lst [.O 8],.O 9])]) (.call .A6 [.O 4,.O 7,.O 9])) [.bad] []]
theorem Rq{c:LC}(hc:c.lo 6=true)(ht:Bf true 2 t)(A3:CJ key):TS Aa (d+7) XI (Et t q key (some (.f (Bj key))) (some (bl exact))) (A4 r0 t0 rr x5 y5++[c]) (.ok (Et t q key (some (.f (Bj key))) (some (bl exact)),none) (A4 r0 t0 rr x5 y5++[c])):=by
 have g:=Uj (Aa:=Aa) (d:=d) (exact:=exact) ht A3
 have e:=Lq (Aa:=Aa) (d:=d+4) (exact:=exact) ht A3
 have x:∃tl,TS Aa (d+7) XI (Et t q key (some (.f (Bj key))) (some (bl exact))) (A4 r0 t0 rr x5 y5++[c]) (.ok (Et t q key (some (.f (Bj key))) (some (bl exact)),none) (A4 r0 t0 rr x5 y5++[c,.fz tl])):=by
  refine⟨.n .lst [Bj key],?_⟩
  have h:=FW (r:=B1 t key exact) fun t h=>⟨2,by decide,FC ht h⟩
  cases hr:B1 t key exact with
  | ok r=>
   rw[hr]at g e h
   have s:=Df (Aa:=Aa) (d:=d+1) (FC ht hr)
   exact QS (aa 3 (.d .z)) fun q=>q g s e rfl h
  | error m=>
   rw[hr]at g e h
   exact QS (.b (aa 2 (.d .z))) fun q=>q g Bc e rfl h
 obtain⟨tl,x⟩:=x
 exact TS.cut Aa 18 6 x (by rw[show(A4 r0 t0 rr x5 y5++[c,.fz tl]).take 6=A4 r0 t0 rr x5 y5++[c]from rfl];show(true&&(true&&(true&&(true&&(true&&(c.lo 6&&true))))))=true;rw[hc];rfl) rfl rfl (Nat.le_refl 6)
end
section
variable{Aa:List Int}{d k n m m':Nat}{t q r:Aj}{key:Em}{st exact:Bool}{r0:List TV}{t0:TV}{rr:List Int}{x5:List TV}{y5:TV}
noncomputable abbrev YL:TV:= .n .lst [.s (.bool true),.s (.bool false)]
theorem UJ{c:LC}(hc:c.lo 6=true)(ht:Bf true 2 t)(hq:Bf true 1 q)(A3:CJ key)(hnum:∀i,key=.num i->i<=7):TS Aa (d+12) (Qa.drop 2) (Et t q key (some (.f (Bj key))) (some (bl false))) (A4 r0 t0 rr x5 y5++[c]) (.ok (Et t q key (some (.f (Bj key))) (some (bl false)),none) (A4 r0 t0 rr x5 y5++[c])):=by
 have g:=Ql (Aa:=Aa) (d:=d) (notes:= .n .lst []) ht hq (.inl rfl) A3 (fun i h=>by have:=hnum i h;exact zz ‹_› (by rfl))
 have e:=G3 (Aa:=Aa) (d:=d+9) ht hq (.inl rfl) A3 (fun i h=>by have:=hnum i h;exact zz ‹_› (by rfl))
 have v1:=G2 (Aa:=Aa) (d:=d+7) 2 ht
 have v2:=G2 (Aa:=Aa) (d:=d+8) 1 hq
 have w1:=LQ ht 64 (by decide)
 have w2:=LQ hq 64 (by decide)
 have pk:∀r,BP t key q=.ok r->Bf false 2 r:=fun r h=>ID ht hq A3 hnum h
 have x:∃tl,tl.all (fun c=> !c.bor)=true/\TS Aa (d+12) (Qa.drop 2) (Et t q key (some (.f (Bj key))) (some (bl false))) (A4 r0 t0 rr x5 y5++[c]) (.ok (Et t q key (some (.f (Bj key))) (some (bl false)),none) (A4 r0 t0 rr x5 y5++c::tl)):=by
  refine⟨[.fz (.n .lst [Bj key]),.fz (.n .lst [])],rfl,?_⟩
  have h:=FW (r:=BP t key q) fun t h=>⟨2,by decide,pk t h⟩
  cases hr:BP t key q with
  | ok r=>
   rw[hr]at g e h
   have s:=Df (Aa:=Aa) (d:=d+6) (pk r hr)
   exact QS (aa 3 (.d (.a (.d (.a (.d .z)))))) fun q=>q g s e rfl h v1 rfl w1 v2 rfl w2
  | error m=>
   rw[hr]at g e h
   exact QS (.b (aa 2 (.d (.a (.d (.a (.d .z))))))) fun q=>q g Bc e rfl h v1 rfl w1 v2 rfl w2
 obtain⟨tl,h,x⟩:=x
 exact TS.cut Aa 18 6 x (by rw[show(A4 r0 t0 rr x5 y5++c::tl).take 6=A4 r0 t0 rr x5 y5++[c]from rfl];show(true&&(true&&(true&&(true&&(true&&(c.lo 6&&true))))))=true;rw[hc];rfl) h rfl (Nat.le_refl 6)
theorem QR{o8 o9:Option LV}(ht:Bf true 2 t)(hq:Bf true 1 q)(A3:CJ key)(hnum:∀i,key=.num i->i<=7):TS Aa (d+12) Qa (Et t q key o8 o9) (A4 r0 t0 rr x5 y5) (.ok (Et t q key (some (.f (Bj key))) (some (bl false)),none) (A4 r0 t0 rr x5 y5++[.fz YL])):=by
 have i0:=S1 (Aa:=Aa) (d:=d+10) A3
 have h1:=Rq (Aa:=Aa) (d:=d+5) (q:=q) (exact:=true) (r0:=r0) (t0:=t0) (rr:=rr) (x5:=x5) (y5:=y5) (c:= .fz YL) rfl ht A3
 have h2:=Rq (Aa:=Aa) (d:=d+5) (q:=q) (exact:=false) (r0:=r0) (t0:=t0) (rr:=rr) (x5:=x5) (y5:=y5) (c:= .fz YL) rfl ht A3
 have g:DL (Am (CS Aa (d+12)) XI) 9 [.s (.bool true),.s (.bool false)] (Et t q key (some (.f (Bj key))) o9) (A4 r0 t0 rr x5 y5++[.fz YL]) (.ok (Et t q key (some (.f (Bj key))) (some (bl false)),none) (A4 r0 t0 rr x5 y5++[.fz YL])):= .next h1 (.next h2 .nil)
 have x:TS Aa (d+12) (Qa.take 2) (Et t q key o8 o9) (A4 r0 t0 rr x5 y5) (.ok (Et t q key (some (.f (Bj key))) (some (bl false)),none) (A4 r0 t0 rr x5 y5++[.fz YL])):=QS .z fun q=>q i0 g
 exact x.app (UJ rfl ht hq A3 hnum)
theorem Ky{o8 o9:Option LV}(ht:Bf true 2 t)(hq:Bf true 1 q)(A3:CJ key)(hnum:∀i,key=.num i->i<=7):TS Aa (d+12) Qa (Et t q key o8 o9) (A4 r0 t0 rr x5 y5) (.ok (Et t q key (some (.f (Bj key))) (some (bl false)),none) (A4 r0 t0 rr x5 y5)):=
 TS.cut Aa 18 5 (QR ht hq A3 hnum) rfl rfl rfl (Nat.le_refl 5)
end
section
variable{Aa:List Int}{d k n m m':Nat}{t q r:Aj}{key:Em}{st exact:Bool}{r0:List TV}{t0:TV}{rr:List Int}{x5:List TV}{y5:TV}
noncomputable def NI(j:Nat):Nat:=match j with | 0=>12 | 1=>14 | 2=>13 | 3=>17 | _=>16
noncomputable abbrev Kx:List TV:=[.s (.w 12),.s (.w 14),.s (.w 13),.s (.w 17),.s (.w 16)]
theorem RW(j:Nat):12<=NI j/\NI j < 18:=by unfold NI;split<;>decide
theorem QU(ht:Bf true 2 t)(hq:Bf true 1 q):∃r' y,TS Aa (d+12) ((Fk.drop 6).take 1) (Ot t q) (Yg r0 t0 rr) (.ok (Et t q .na (some (.f (Bj .na))) (some (bl false)),none) (A4 r0 t0 r' Kx y)):=by
 have hl4:t.len<=4:=by
  cases ht with
  | null=>exact Nat.zero_le _
  | atom _ _ _ hi=>exact(hi.2 rfl).1
  | list _ _ hs=>exact hs rfl
 obtain⟨i1,j1,r1,hj1,hm1,g1⟩:=Bi (Aa:=Aa) (d:=d+11) (t.len+3) (by exact f8) rr
 obtain⟨i2,j2,r2,hj2,hm2,g2⟩:=Bi (Aa:=Aa) (d:=d+11) 5 (by decide) r1
 have hx:Kx[j2]? =some (.s (.w (NI j2))):=by
  rcases(fJ hj2)with rfl | rfl | rfl | rfl | rfl<;>rfl
 have hm1:i1 % ((t.len:Int)+3)=(j1:Int):=hm1
 have p1:0 < (t.len:Int)+3:=by exact qG (Nat.succ_pos _)
 have b1:=Ky (Aa:=Aa) (d:=d) (r0:=r0) (t0:=t0) (rr:=r2) (x5:=Kx) (y5:= .n .lst [Ca (.num j1),Ca (.nm (NI j2)),Ca .na]) (key:= .num j1) (o8:=none) (o9:=none) ht hq trivial (fun i h=>by cases h;exact qX ‹_› ‹_› (by rfl))
 have b2:=Ky (Aa:=Aa) (d:=d) (r0:=r0) (t0:=t0) (rr:=r2) (x5:=Kx) (y5:= .n .lst [Ca (.num j1),Ca (.nm (NI j2)),Ca .na]) (key:= .nm (NI j2)) (o8:=some (.f (Bj (.num j1)))) (o9:=some (bl false)) ht hq (RW j2) (fun i h=>by cases h)
 have b3:=Ky (Aa:=Aa) (d:=d) (r0:=r0) (t0:=t0) (rr:=r2) (x5:=Kx) (y5:= .n .lst [Ca (.num j1),Ca (.nm (NI j2)),Ca .na]) (key:= .na) (o8:=some (.f (Bj (.nm (NI j2))))) (o9:=some (bl false)) ht hq trivial (fun i h=>by cases h)
 have g:DL (Am (CS Aa (d+12)) Qa) 7 [Ca (.num j1),Ca (.nm (NI j2)),Ca .na] (Ot t q) (A4 r0 t0 r2 Kx (.n .lst [Ca (.num j1),Ca (.nm (NI j2)),Ca .na])) (.ok (Et t q .na (some (.f (Bj .na))) (some (bl false)),none) (A4 r0 t0 r2 Kx (.n .lst [Ca (.num j1),Ca (.nm (NI j2)),Ca .na]))):= .next b1 (.next b2 (.next b3 .nil))
 exact⟨r2,_,QS (aa 2 (.b .z)) fun q=>q g1 p1 hm1 g2 (show(0:Int) < 5 from by decide) hm2 hx g⟩
end
section
variable{Aa:List Int}{d k n m m':Nat}{t q r:Aj}{key:Em}{st exact:Bool}{r0:List TV}{t0:TV}{rr:List Int}{x5:List TV}{y5:TV}
noncomputable abbrev Zx:List TV:=[.s (.w 12),.s (.w 14),.s (.w 13),.s (.w 17)]
noncomputable abbrev GR(t q:Aj)(k:Nat)(o11 o12 o13 o14:Option LV):AA:=[some (sv .ext),some (.r 2),some (.f t.v),some (.f q.v),some (.f t.w),some (.f q.w),some (il (t.len:Int)),some (.f (Ca .na)),some (.f (Bj .na)),some (bl false),some (sv (.w k)),o11,o12,o13,o14,none,none,none,none]
theorem Q8:∃k r',(12<=k/\k < 18)/\TS Aa (d+12) ((Fk.drop 7).take 1) (Et t q .na (some (.f (Bj .na))) (some (bl false))) (A4 r0 t0 rr x5 y5) (.ok (GR t q k none none none none,none) (A4 r0 t0 r' x5 y5)):=by
 obtain⟨i1,j1,r1,hj1,hm1,g1⟩:=Bi (Aa:=Aa) (d:=d+11) 4 (by decide) rr
 have hx:Zx[j1]? =some (.s (.w (NI j1))):=by
  rcases(bQ hj1)with rfl | rfl | rfl | rfl<;>rfl
 have x:TS Aa (d+12) ((Fk.drop 7).take 1) (Et t q .na (some (.f (Bj .na))) (some (bl false))) (A4 r0 t0 rr x5 y5) (.ok (GR t q (NI j1) none none none none,none) (A4 r0 t0 r1 x5 y5++[.lst false Zx])):=QS (.a (.b .z)) fun q=>q g1 (show(0:Int) < 4 from by decide) hm1 hx
 exact⟨NI j1,r1,RW j1,TS.cut Aa 18 5 x rfl rfl rfl (Nat.le_refl 5)⟩
end
section
variable{Aa:List Int}{d k n m m':Nat}{t q r:Aj}{key:Em}{st exact:Bool}{r0:List TV}{t0:TV}{rr:List Int}{x5:List TV}{y5:TV}
theorem TN(ht:Bf true 2 t)(hk:12<=k/\k < 18):∃x,TS Aa (d+12) ((Fk.drop 8).take 2) (GR t q k none none none none) (A4 r0 t0 rr x5 y5) (.ok (GR t q k (some (.f x)) none none none,none) (A4 r0 t0 rr x5 y5)):=by
 have g:=C5 (Aa:=Aa) (d:=d+6) ht hk
 have e:=Lq (Aa:=Aa) (d:=d+9) (key:= .nm k) (exact:=false) ht hk
 cases t with
 | null=>
  have s:=Df (Aa:=Aa) (d:=d+6) (t:= .null) (st:=false) (n:=2) .null
  exact⟨Aj.null.v,QS (aa 4 (.d .z)) fun q=>q g s e rfl (LQ (st:=false) (n:=2) .null 64 (by decide))⟩
 | atom k xs ns=>
  have hk:Ka k:=by cases ht;assumption
  refine⟨.s (.w 30),?_⟩
  rcases hk with rfl | rfl<;>exact QS (.b .z) fun q=>q g
 | list ts ns=>
  have Ls:∀r,B1 (.list ts ns) (.nm k) false=.ok r->Bf false 2 r:=fun r h=>FC ht h
  have h:=FW (r:=B1 (.list ts ns) (.nm k) false) fun t h=>⟨2,by decide,Ls t h⟩
  have g:FP Aa (d+12) .C5 [(Aj.list ts ns).v,.s (.w k)] ((B1 (.list ts ns) (.nm k) false).map Aj.v):=g
  cases hr:B1 (.list ts ns) (.nm k) false with
  | ok r=>
   rw[hr]at g e h
   have s:=Df (Aa:=Aa) (d:=d+6) (Ls r hr)
   exact⟨r.v,QS (aa 6 (.d .z)) fun q=>q g s e rfl h⟩
  | error c=>
   rw[hr]at g e h
   exact⟨.s (.w c),QS (.b (aa 5 (.d .z))) fun q=>q g Bc e rfl h⟩
end
section
variable{Aa:List Int}{d k n m m':Nat}{t q r:Aj}{key:Em}{st exact:Bool}{r0:List TV}{t0:TV}{rr:List Int}{x5:List TV}{y5 x:TV}
noncomputable abbrev bT(A:Bool)(due:List TV):List LC:=match A with | true=>[.fz (.n .lst []),.fz (.n (.dct []) []),.lst false due] | false=>[.lst false due]
noncomputable def jA(A:Bool):Nat:=match A with | true=>8 | false=>6
theorem QO(ht:Bf true 2 t):∃A,TS Aa (d+12) ((Fk.drop 10).take 4) (GR t q k (some (.f x)) none none none) (A4 r0 t0 rr x5 y5) (.ok (GR t q k (some (.f x)) (some (.r 5)) (some (.f (Do t).w)) (some (.r (jA A))),none) (A4 r0 t0 rr x5 y5++ .lst false []::bT A (Ok t))):=by
 cases ht with
 | null=>exact⟨true,QS .z fun q=>q⟩
 | @list _ ts ns=>exact⟨false,QS .z fun q=>q⟩
 | @atom _ k xs ns hk hx hn hi=>
  have f:=OG (Aa:=Aa) (d:=d+11) (k:=k) (ns:=ns) hx
  cases xs with
  | nil=>rcases hk with rfl | rfl<;>exact⟨false,QS .z fun q=>q f⟩
  | cons y r=>
   have e:(0:Int) < ((y::r).length:Int):=by simp only [List.length_cons];exact qG (Nat.succ_pos _)
   rcases hk with rfl | rfl<;>exact⟨false,QS (aa 7 (.b .z)) fun q=>q f e⟩
theorem WM(A:Bool)(ht:Bf true 2 t)(hq:Bf true 1 q)(hk:12<=k/\k < 18):TS Aa (d+12) ((Fk.drop 14).take 1) (GR t q k (some (.f x)) (some (.r 5)) (some (.f (Do t).w)) (some (.r (jA A)))) (A4 r0 t0 rr x5 y5++ .lst false []::bT A (Ok t)) (.ok (GR t q k (some (.f x)) (some (.r 5)) (some (.f (Do t).w)) (some (.r (jA A))),none) (A4 r0 t0 rr x5 y5++ .lst false (Ok t)::bT A (Ok t))):=by
 have g:=Qe (Aa:=Aa) (d:=d+1) ht hq hk
 have e:=G3 (Aa:=Aa) (d:=d+9) (key:= .nm k) (Kq ht) hq (.inl rfl) hk (fun i h=>by cases h)
 have pk:∀r,BP (Do t) (.nm k) q=.ok r->Bf false 3 r:=fun r h=>ID (key:= .nm k) (Kq ht) hq hk (fun i h=>by cases h) h
 have h:=FW (r:=BP (Do t) (.nm k) q) fun t h=>⟨3,by decide,pk t h⟩
 have du:LO 64 (.n .lst (Ok t))=true:=by
  cases t with
  | atom k xs ns=>cases xs<;>rfl
  | null=>rfl
  | list=>rfl
 cases hr:BP (Do t) (.nm k) q with
 | ok r=>
  rw[hr]at g e h
  have s:=Df (Aa:=Aa) (d:=d+5) (pk r hr)
  cases A<;>exact QS (aa 3 (.d (.d .z))) fun q=>q g s e rfl h rfl du
 | error c=>
  rw[hr]at g e h
  cases A<;>exact QS (.b (aa 2 (.d (.d .z)))) fun q=>q g Bc e rfl h rfl du
end
section
variable{Aa:List Int}{d k n m m':Nat}{t q r:Aj}{key:Em}{st exact:Bool}{r0:List TV}{t0:TV}{rr:List Int}{x5:List TV}{y5 x:TV}
theorem VE(ht:Bf true 2 t)(hq:Bf true 1 q):∃k x r',(12<=k/\k < 18)/\TS Aa (d+12) ((Fk.drop 7).take 8) (Et t q .na (some (.f (Bj .na))) (some (bl false))) (A4 r0 t0 rr x5 y5) (.ok (GR t q k (some (.f x)) none (some (.f (Do t).w)) none,none) (A4 r0 t0 r' x5 y5)):=by
 obtain⟨k,r',hk,h1⟩:=Q8 (Aa:=Aa) (d:=d) (t:=t) (q:=q) (r0:=r0) (t0:=t0) (rr:=rr) (x5:=x5) (y5:=y5)
 obtain⟨x,h2⟩:=TN (Aa:=Aa) (d:=d) (q:=q) (r0:=r0) (t0:=t0) (rr:=r') (x5:=x5) (y5:=y5) ht hk
 obtain⟨A,h3⟩:=QO (Aa:=Aa) (d:=d) (q:=q) (k:=k) (x:=x) (r0:=r0) (t0:=t0) (rr:=r') (x5:=x5) (y5:=y5) ht
 have h4:=WM (Aa:=Aa) (d:=d) (x:=x) (r0:=r0) (t0:=t0) (rr:=r') (x5:=x5) (y5:=y5) A ht hq hk
 refine⟨k,x,r',hk,?_⟩
 have h:=h1.app (h2.app (h3.app h4))
 cases A
 .exact TS.cut Aa 14 5 (TS.cut Aa 12 7 h rfl rfl rfl (BI rfl)) rfl rfl rfl (BI rfl)
 .exact TS.cut Aa 14 5 (TS.cut Aa 12 9 h rfl rfl rfl (BI rfl)) rfl rfl rfl (BI rfl)
end
section
variable{Aa:List Int}{d k n m m' i j:Nat}{t q r u:Aj}{ts:List Aj}{ns:Option (List TV)}{r0:List TV}{t0:TV}{rr:List Int}{x5:List TV}{y5 x b:TV}
theorem TZ(ht:Bf true 2 t)(h:∀ts ns,t=.list ts ns->ts=[]):TS Aa (d+13) ((Fk.drop 15).take 1) (GR t q k (some (.f x)) none (some (.f b)) none) (A4 r0 t0 rr x5 y5) (.ok (GR t q k (some (.f x)) none (some (.f b)) none,none) (A4 r0 t0 rr x5 y5)):=by
 cases ht with
 | null=>exact QS .z fun q=>q
 | @atom _ k xs ns hk hx hn hi=>rcases hk with rfl | rfl<;>exact QS .z fun q=>q
 | @list _ ts ns=>cases h ts ns rfl;exact QS .z fun q=>q
end
theorem TS.ifT{Aa:List Int}{d:Nat}{c:ME Fn}{b e:List (MS Fn)}{env:AA}{L L1:List LC}{out:Oc (AA×Option LV)}(hc:TE Aa d c env L (.ok (bl true) L1))(hb:TS Aa d b env L1 out):TS Aa d [.ifs c b e] env L out:=fun F w s r hs=>by
 have eq:Am (CS Aa d) [.ifs c b e] s=bnd (Ac (CS Aa d) c s) (fun x=>bnd (AG x) fun y=>if y then Am (CS Aa d) b s else Am (CS Aa d) e s):=funext fun H=>by
  show bnd (bnd (Ac (CS Aa d) c s) (fun x=>bnd (AG x) fun y=>if y then Am (CS Aa d) b s else Am (CS Aa d) e s)) (fun p=>match p.2 with | some v=>ret (p.1,some v) | none=>ret (p.1,none)) H=_
  generalize bnd (Ac (CS Aa d) c s) (fun x=>bnd (AG x) fun y=>if y then Am (CS Aa d) b s else Am (CS Aa d) e s)=m
  unfold bnd
  cases m H with
  | ok p H1=>obtain⟨e1,o⟩:=p;cases o<;>rfl
  | exc=>rfl
  | bad=>rfl
 rw[eq]
 refine(hc F w s r hs).bnd fun w1 v n q=> ?_
 cases Sw rfl q
 exact hb F w1 s n.r (AI n.l n.p hs)
noncomputable def gQ:MS Fn->List (MS Fn)
 | .ifs _ b _=>b
 | _=>[]
noncomputable abbrev ON:List (MS Fn):=((Fk.drop 15).map gQ).headD []
section
variable{Aa:List Int}{d k n m m' i j:Nat}{t q r u:Aj}{ts:List Aj}{ns:Option (List TV)}{r0:List TV}{t0:TV}{rr:List Int}{x5:List TV}{y5 x b:TV}
noncomputable abbrev Ga(t q:Aj)(k:Nat)(x b:TV)(o8 o14:Option LV)(i j:Int)(o17 o18:Option LV):AA:=[some (sv .ext),some (.r 2),some (.f t.v),some (.f q.v),some (.f t.w),some (.f q.w),some (il (t.len:Int)),some (.f (Ca .na)),o8,some (bl false),some (sv (.w k)),some (.f x),none,some (.f b),o14,some (il i),some (il j),o17,o18]
theorem TD(h0:0 < ts.length):∃j1 j2 r',j1 < ts.length/\j2 < 3/\TS Aa (d+13) (ON.take 2) (GR (.list ts ns) q k (some (.f x)) none (some (.f b)) none) (A4 r0 t0 rr x5 y5) (.ok (Ga (.list ts ns) q k x b (some (.f (Bj .na))) none ((1+j1:Nat):Int) ((1+j2:Nat):Int) none none,none) (A4 r0 t0 r' x5 y5)):=by
 obtain⟨i1,j1,r1,hj1,hm1,g1⟩:=Bi (Aa:=Aa) (d:=d+12) ts.length h0 rr
 obtain⟨i2,j2,r2,hj2,hm2,g2⟩:=Bi (Aa:=Aa) (d:=d+12) 3 (by decide) r1
 exact⟨j1,j2,r2,hj1,hj2,QS .z fun q=>q g1 (show(0:Int) < (ts.length:Int)from by exact qG ‹_›) hm1 g2 (show(0:Int) < 3 from by decide) hm2⟩
end
section
variable{Aa:List Int}{d k n m m' i j:Nat}{t q r u:Aj}{ts:List Aj}{ns:Option (List TV)}{r0:List TV}{t0:TV}{rr:List Int}{x5:List TV}{y5 x b:TV}
theorem VN{j1 j2:Nat}(hj:j1 < 4)(hu:ts[j1]? =some u):TS Aa (d+13) ((ON.drop 2).take 2) (Ga (.list ts ns) q k x b (some (.f (Bj .na))) none ((1+j1:Nat):Int) ((1+j2:Nat):Int) none none) (A4 r0 t0 rr x5 y5) (.ok (Ga (.list ts ns) q k x b (some (.f (FU (1+j1) (1+j2)))) none ((1+j1:Nat):Int) ((1+j2:Nat):Int) (some (.f u.w)) none,none) (A4 r0 t0 rr x5 y5)):=by
 have hw:(Aj.ws ts)[j1]? =some u.w:=by rw[Eb,List.getElem?_map,hu];rfl
 have y:TS Aa (d+13) ((ON.drop 2).take 1) (Ga (.list ts ns) q k x b (some (.f (Bj .na))) none ((1+j1:Nat):Int) ((1+j2:Nat):Int) none none) (A4 r0 t0 rr x5 y5) (.ok (Ga (.list ts ns) q k x b (some (.r 6)) none ((1+j1:Nat):Int) ((1+j2:Nat):Int) none none,none) (A4 r0 t0 rr x5 y5++[.lst false [.s (.int ((1+j1:Nat):Int)),.s (.int ((1+j2:Nat):Int))],.ins .vector [(0,sv (.w 8)),(1,.r 5),(2,sv .none),(4,bl false)]])):=QS .z fun q=>q
 have f:=TS.frz (i:=8) y rfl rfl rfl rfl rfl
 refine TS.app f ?_
 rcases(bQ hj)with rfl | rfl | rfl | rfl<;>exact QS (.a (.b .z)) fun q=>q hw
end
section
variable{Aa:List Int}{d k n m m' i j:Nat}{t q r u:Aj}{ts:List Aj}{ns:Option (List TV)}{r0:List TV}{t0:TV}{rr:List Int}{x5:List TV}{y5 x b:TV}
theorem ZG{j1 j2:Nat}(ht:Bf true 2 (.list ts ns))(hu:ts[j1]? =some u):TS Aa (d+13) ((ON.drop 4).take 2) (Ga (.list ts ns) q k x b (some (.f (FU (1+j1) (1+j2)))) none ((1+j1:Nat):Int) ((1+j2:Nat):Int) (some (.f u.w)) none) (A4 r0 t0 rr x5 y5) (.ok (Ga (.list ts ns) q k x b (some (.f (FU (1+j1) (1+j2)))) none ((1+j1:Nat):Int) ((1+j2:Nat):Int) (some (.f u.w)) none,none) (A4 r0 t0 rr x5 y5)):=by
 have Ls:Bf true 2 u:=by
  cases ht with
  | list _ _ _ h=>exact(h u (List.mem_of_getElem? hu)).le (by decide)
 have g:=Vo (Aa:=Aa) (d:=d+6) (j:=1+j2) ht hu
 rw[Nat.add_comm j1 1]at g
 have e:=Lq (Aa:=Aa) (d:=d+10) (key:= .num (1+j2)) (exact:=true) Ls trivial
 have h:=FW (r:=B1 u (.num (1+j2)) true) fun t h=>⟨2,by decide,FC Ls h⟩
 cases u with
 | null=>
  have y:TS Aa (d+13) ((ON.drop 4).take 2) (Ga (.list ts ns) q k x b (some (.f (FU (1+j1) (1+j2)))) none ((1+j1:Nat):Int) ((1+j2:Nat):Int) (some (.f Aj.null.w)) none) (A4 r0 t0 rr x5 y5) (.ok (Ga (.list ts ns) q k x b (some (.f (FU (1+j1) (1+j2)))) (some (.r 5)) ((1+j1:Nat):Int) ((1+j2:Nat):Int) (some (.f Aj.null.w)) none,none) (A4 r0 t0 rr x5 y5++[.lst false [.s (.w 11),.s (.w 28)],.fz (.n .lst [FU (1+j1) (1+j2)])])):=QS (.a (.b (.a (.d .z)))) fun q=>q g Bc rfl rfl
  exact TS.cut Aa 14 5 y rfl rfl rfl (Nat.le_refl 5)
 | atom ku xu nu=>
  have y:TS Aa (d+13) ((ON.drop 4).take 2) (Ga (.list ts ns) q k x b (some (.f (FU (1+j1) (1+j2)))) none ((1+j1:Nat):Int) ((1+j2:Nat):Int) (some (.f (Aj.atom ku xu nu).w)) none) (A4 r0 t0 rr x5 y5) (.ok (Ga (.list ts ns) q k x b (some (.f (FU (1+j1) (1+j2)))) (some (.f (HY (B1 (Aj.atom ku xu nu) (.num (1+j2)) true)))) ((1+j1:Nat):Int) ((1+j2:Nat):Int) (some (.f (Aj.atom ku xu nu).w)) none,none) (A4 r0 t0 rr x5 y5++[.fz (.n .lst [FU (1+j1) (1+j2)])])):=by
   have g:FP Aa (d+13) .Bd [(Aj.list ts ns).v,.n .lst [FU (1+j1) (1+j2)],.s (.bool true)] ((B1 (Aj.atom ku xu nu) (.num (1+j2)) true).map Aj.v):=g
   cases hr:B1 (Aj.atom ku xu nu) (.num (1+j2)) true with
   | ok r=>
    rw[hr]at g e h
    have s:=Df (Aa:=Aa) (d:=d+7) (FC Ls hr)
    exact QS (aa 4 (.d .z)) fun q=>q e g s rfl h
   | error c=>
    rw[hr]at g e h
    exact QS (.a (.a (.b (.a (.d .z))))) fun q=>q e g Bc rfl h
  exact TS.cut Aa 14 5 y rfl rfl rfl (Nat.le_refl 5)
 | list us nu=>
  have y:TS Aa (d+13) ((ON.drop 4).take 2) (Ga (.list ts ns) q k x b (some (.f (FU (1+j1) (1+j2)))) none ((1+j1:Nat):Int) ((1+j2:Nat):Int) (some (.f (Aj.list us nu).w)) none) (A4 r0 t0 rr x5 y5) (.ok (Ga (.list ts ns) q k x b (some (.f (FU (1+j1) (1+j2)))) (some (.f (HY (B1 (Aj.list us nu) (.num (1+j2)) true)))) ((1+j1:Nat):Int) ((1+j2:Nat):Int) (some (.f (Aj.list us nu).w)) none,none) (A4 r0 t0 rr x5 y5++[.fz (.n .lst [FU (1+j1) (1+j2)])])):=by
   have g:FP Aa (d+13) .Bd [(Aj.list ts ns).v,.n .lst [FU (1+j1) (1+j2)],.s (.bool true)] ((B1 (Aj.list us nu) (.num (1+j2)) true).map Aj.v):=g
   cases hr:B1 (Aj.list us nu) (.num (1+j2)) true with
   | ok r=>
    rw[hr]at g e h
    have s:=Df (Aa:=Aa) (d:=d+7) (FC Ls hr)
    exact QS (aa 4 (.d .z)) fun q=>q e g s rfl h
   | error c=>
    rw[hr]at g e h
    exact QS (.a (.a (.b (.a (.d .z))))) fun q=>q e g Bc rfl h
  exact TS.cut Aa 14 5 y rfl rfl rfl (Nat.le_refl 5)
end
section
variable{Aa:List Int}{d k n m m' i j:Nat}{t q r u:Aj}{ts:List Aj}{ns:Option (List TV)}{r0:List TV}{t0:TV}{rr:List Int}{x5:List TV}{y5 x b:TV}
noncomputable abbrev Qk(ts:List Aj)(ns:Option (List TV))(q u:Aj)(k:Nat)(x b:TV)(j1 j2:Nat)(o14 o18:Option LV):AA:=Ga (.list ts ns) q k x b (some (.f (FU (1+j1) (1+j2)))) o14 ((1+j1:Nat):Int) ((1+j2:Nat):Int) (some (.f u.w)) o18
theorem Ey{p:Nat}{mo:Option Nat}(h0:t≠.null)(h:Dh t p mo q=.ok r):r≠.null:=fun e=>by
 subst e
 cases t with
 | null=>exact h0 rfl
 | list=>cases h
 | atom k xs ns=>cases q with
  | null=>cases h
  | atom k ys ns=>rcases ys with _ | ⟨y,_ | ⟨z,l⟩⟩<;>cases h
  | list ys ns=>rcases ys with _ | ⟨y,_ | ⟨z,l⟩⟩<;>cases h
theorem TH{mo:Option Nat}{pl:Pl}(h0:t≠.null)(h:KN t q mo pl=.ok r):r≠.null:=by
 cases pl with
 | na=>cases h
 | no=>cases t with
  | null=>exact absurd rfl h0
  | atom=>exact Ey h0 h
  | list=>cases q with
   | null=>cases h;intro h;cases h
   | atom=>exact Ey h0 h
   | list=>exact Ey h0 h
 | «at» i=>cases t with
  | null=>exact absurd rfl h0
  | atom=>exact Ey h0 h
  | list ts ns=>cases q with
   | null=>
    have h:(if ts.length<=i then Except.ok (Aj.list ts ns)else .ok (.list (ts.eraseIdx i) (ns.map (·.eraseIdx i))))=.ok r:=h
    split at h<;>(cases h;intro h;cases h)
   | atom=>exact Ey h0 h
   | list=>exact Ey h0 h
theorem Tu{key:Em}(h0:t≠.null)(h:BP t key q=.ok r):r≠.null:=by
 have h:Cf t key q=.ok r:=by
  cases t with
  | null=>exact absurd rfl h0
  | atom=>exact h
  | list=>exact h
 unfold Cf at h
 cases hp:AR t.names true key with
 | error c=>rw[hp]at h;cases h
 | ok pl=>rw[hp]at h;exact TH h0 h
theorem XS{j1 j2:Nat}(ht:Bf true 2 (.list ts ns))(hq:Bf true 1 q)(hj1:j1 < 4)(hj2:j2 < 3)(hu:ts[j1]? =some u):∃o18,TS Aa (d+13) (ON.drop 6) (Qk ts ns q u k x b j1 j2 none none) (A4 r0 t0 rr x5 y5) (.ok (Qk ts ns q u k x b j1 j2 none o18,none) (A4 r0 t0 rr x5 y5)):=by
 have Ls:Bf true 1 u:=by
  cases ht with
  | list _ _ _ h=>exact h u (List.mem_of_getElem? hu)
 have pk:∀r,BP u (.num (1+j2)) q=.ok r->Bf false 2 r:=fun r h=>ID (key:= .num (1+j2)) Ls hq trivial (fun i h=>by cases h;exact VA ‹_› (by rfl)) h
 have g:=R3 (Aa:=Aa) (d:=d) (notes:= .n .lst []) (j:=1+j2) ht hu hq (by exact VA ‹_› (by rfl)) (fun r h=>⟨_,_,pk r h⟩)
 rw[Nat.add_comm j1 1]at g
 cases u with
 | null=>
  have y:TS Aa (d+13) (ON.drop 6) (Qk ts ns q .null k x b j1 j2 none none) (A4 r0 t0 rr x5 y5) (.ok (Qk ts ns q .null k x b j1 j2 (some (.r 5)) none,none) (A4 r0 t0 rr x5 y5++[.lst false [.s (.w 11),.s (.w 36)],.fz (.n .lst [FU (1+j1) (1+j2)]),.fz (.n .lst [])])):=QS (.a (.b (.a (.d .z)))) fun q=>q g Bc rfl rfl
  exact⟨none,TS.cut Aa 14 5 y rfl rfl rfl (Nat.le_refl 5)⟩
 | atom ku xu nu=>
  have e1:=G3 (Aa:=Aa) (d:=d+10) (key:= .num (1+j2)) Ls hq (.inl rfl) trivial (fun i h=>by cases h;exact VA ‹_› (by rfl))
  have g:FP Aa (d+13) .Ay [(Aj.list ts ns).v,.n .lst [FU (1+j1) (1+j2)],q.v,.n .lst []] (((BP (Aj.atom ku xu nu) (.num (1+j2)) q).bind (BP (.list ts ns) (.num (j1+1)))).map Aj.v):=g
  rw[Nat.add_comm j1 1]at g
  cases hr:BP (Aj.atom ku xu nu) (.num (1+j2)) q with
  | error c=>
   rw[hr]at g e1
   have y:TS Aa (d+13) (ON.drop 6) (Qk ts ns q (Aj.atom ku xu nu) k x b j1 j2 none none) (A4 r0 t0 rr x5 y5) (.ok (Qk ts ns q (Aj.atom ku xu nu) k x b j1 j2 (some (.f (HY (.error c)))) (some (.f (HY (.error c)))),none) (A4 r0 t0 rr x5 y5++[.lst false [.s (.w 11),.s (.w 36)],.fz (.n .lst [FU (1+j1) (1+j2)]),.fz (.n .lst [])])):=QS (.a (.a (.b (.a (.d .z))))) fun q=>q e1 g Bc rfl rfl
   exact⟨_,TS.cut Aa 14 5 y rfl rfl rfl (Nat.le_refl 5)⟩
  | ok r=>
   rw[hr]at g e1
   have hr2:=pk r hr
   have e2:=G3 (Aa:=Aa) (d:=d+10) (key:= .num (1+j1)) ht hr2 (.inr ⟨_,_,rfl⟩) trivial (fun i h=>by cases h;exact VA ‹_› (by rfl))
   have p2:∀z,BP (.list ts ns) (.num (1+j1)) r=.ok z->Bf false 3 z:=fun z h=>ID (key:= .num (1+j1)) ht hr2 trivial (fun i h=>by cases h;exact VA ‹_› (by rfl)) h
   have h:=FW (r:=BP (.list ts ns) (.num (1+j1)) r) fun t h=>⟨3,by decide,p2 t h⟩
   have g2:FP Aa (d+13) .Ay [(Aj.list ts ns).v,.n .lst [FU (1+j1) (1+j2)],q.v,.n .lst []] ((BP (.list ts ns) (.num (1+j1)) r).map Aj.v):=g
   have hnn:=Tu (by intro h;cases h) hr
   have y:TS Aa (d+13) (ON.drop 6) (Qk ts ns q (Aj.atom ku xu nu) k x b j1 j2 none none) (A4 r0 t0 rr x5 y5) (.ok (Qk ts ns q (Aj.atom ku xu nu) k x b j1 j2 (some (.f (HY (BP (.list ts ns) (.num (1+j1)) r)))) (some (.f r.w)),none) (A4 r0 t0 rr x5 y5++[.lst false [.s (.w 11),.s (.w 36)],.fz (.n .lst [FU (1+j1) (1+j2)]),.fz (.n .lst [])])):=by
    cases hz:BP (.list ts ns) (.num (1+j1)) r with
    | ok z=>
     rw[hz]at g2 e2 h
     have s:=Df (Aa:=Aa) (d:=d+6) (p2 z hz)
     cases r with
     | null=>exact absurd rfl hnn
     | atom=>exact QS (aa 5 (.d .z)) fun q=>q e1 e2 g2 s rfl h
     | list=>exact QS (aa 5 (.d .z)) fun q=>q e1 e2 g2 s rfl h
    | error c=>
     rw[hz]at g2 e2 h
     cases r with
     | null=>exact absurd rfl hnn
     | atom=>exact QS (aa 3 (.b (.a (.d .z)))) fun q=>q e1 e2 g2 Bc rfl h
     | list=>exact QS (aa 3 (.b (.a (.d .z)))) fun q=>q e1 e2 g2 Bc rfl h
   exact⟨_,TS.cut Aa 14 5 y rfl rfl rfl (Nat.le_refl 5)⟩
 | list us nu=>
  have e1:=G3 (Aa:=Aa) (d:=d+10) (key:= .num (1+j2)) Ls hq (.inl rfl) trivial (fun i h=>by cases h;exact VA ‹_› (by rfl))
  have g:FP Aa (d+13) .Ay [(Aj.list ts ns).v,.n .lst [FU (1+j1) (1+j2)],q.v,.n .lst []] (((BP (Aj.list us nu) (.num (1+j2)) q).bind (BP (.list ts ns) (.num (j1+1)))).map Aj.v):=g
  rw[Nat.add_comm j1 1]at g
  cases hr:BP (Aj.list us nu) (.num (1+j2)) q with
  | error c=>
   rw[hr]at g e1
   have y:TS Aa (d+13) (ON.drop 6) (Qk ts ns q (Aj.list us nu) k x b j1 j2 none none) (A4 r0 t0 rr x5 y5) (.ok (Qk ts ns q (Aj.list us nu) k x b j1 j2 (some (.f (HY (.error c)))) (some (.f (HY (.error c)))),none) (A4 r0 t0 rr x5 y5++[.lst false [.s (.w 11),.s (.w 36)],.fz (.n .lst [FU (1+j1) (1+j2)]),.fz (.n .lst [])])):=QS (.a (.a (.b (.a (.d .z))))) fun q=>q e1 g Bc rfl rfl
   exact⟨_,TS.cut Aa 14 5 y rfl rfl rfl (Nat.le_refl 5)⟩
  | ok r=>
   rw[hr]at g e1
   have hr2:=pk r hr
   have e2:=G3 (Aa:=Aa) (d:=d+10) (key:= .num (1+j1)) ht hr2 (.inr ⟨_,_,rfl⟩) trivial (fun i h=>by cases h;exact VA ‹_› (by rfl))
   have p2:∀z,BP (.list ts ns) (.num (1+j1)) r=.ok z->Bf false 3 z:=fun z h=>ID (key:= .num (1+j1)) ht hr2 trivial (fun i h=>by cases h;exact VA ‹_› (by rfl)) h
   have h:=FW (r:=BP (.list ts ns) (.num (1+j1)) r) fun t h=>⟨3,by decide,p2 t h⟩
   have g2:FP Aa (d+13) .Ay [(Aj.list ts ns).v,.n .lst [FU (1+j1) (1+j2)],q.v,.n .lst []] ((BP (.list ts ns) (.num (1+j1)) r).map Aj.v):=g
   have hnn:=Tu (by intro h;cases h) hr
   have y:TS Aa (d+13) (ON.drop 6) (Qk ts ns q (Aj.list us nu) k x b j1 j2 none none) (A4 r0 t0 rr x5 y5) (.ok (Qk ts ns q (Aj.list us nu) k x b j1 j2 (some (.f (HY (BP (.list ts ns) (.num (1+j1)) r)))) (some (.f r.w)),none) (A4 r0 t0 rr x5 y5++[.lst false [.s (.w 11),.s (.w 36)],.fz (.n .lst [FU (1+j1) (1+j2)]),.fz (.n .lst [])])):=by
    cases hz:BP (.list ts ns) (.num (1+j1)) r with
    | ok z=>
     rw[hz]at g2 e2 h
     have s:=Df (Aa:=Aa) (d:=d+6) (p2 z hz)
     cases r with
     | null=>exact absurd rfl hnn
     | atom=>exact QS (aa 5 (.d .z)) fun q=>q e1 e2 g2 s rfl h
     | list=>exact QS (aa 5 (.d .z)) fun q=>q e1 e2 g2 s rfl h
    | error c=>
     rw[hz]at g2 e2 h
     cases r with
     | null=>exact absurd rfl hnn
     | atom=>exact QS (aa 3 (.b (.a (.d .z)))) fun q=>q e1 e2 g2 Bc rfl h
     | list=>exact QS (aa 3 (.b (.a (.d .z)))) fun q=>q e1 e2 g2 Bc rfl h
   exact⟨_,TS.cut Aa 14 5 y rfl rfl rfl (Nat.le_refl 5)⟩
end
section
variable{Aa:List Int}{d k n m m' i j:Nat}{t q r u:Aj}{ts:List Aj}{ns:Option (List TV)}{r0:List TV}{t0:TV}{rr:List Int}{x5:List TV}{y5 x b:TV}
theorem ZA(ht:Bf true 2 (.list ts ns))(hq:Bf true 1 q)(h0:0 < ts.length):∃j1 j2 o8 o17 o18 r',TS Aa (d+13) ((Fk.drop 15).take 1) (GR (.list ts ns) q k (some (.f x)) none (some (.f b)) none) (A4 r0 t0 rr x5 y5) (.ok (Ga (.list ts ns) q k x b o8 none j1 j2 o17 o18,none) (A4 r0 t0 r' x5 y5)):=by
 obtain⟨j1,j2,r',hj1,hj2,h1⟩:=TD (Aa:=Aa) (d:=d) (q:=q) (k:=k) (x:=x) (b:=b) (ns:=ns) (r0:=r0) (t0:=t0) (rr:=rr) (x5:=x5) (y5:=y5) h0
 have hu:ts[j1]? =some ts[j1]:=List.getElem?_eq_getElem hj1
 have hj:j1 < 4:=by
  cases ht with
  | list _ _ hs=>have:=hs rfl;exact Nat.le_trans ‹_› (zz ‹_› (by rfl))
 have h2:=VN (Aa:=Aa) (d:=d) (q:=q) (k:=k) (x:=x) (b:=b) (ns:=ns) (r0:=r0) (t0:=t0) (rr:=r') (x5:=x5) (y5:=y5) (j2:=j2) hj hu
 have h3:=ZG (Aa:=Aa) (d:=d) (q:=q) (k:=k) (x:=x) (b:=b) (r0:=r0) (t0:=t0) (rr:=r') (x5:=x5) (y5:=y5) (j2:=j2) ht hu
 obtain⟨o18,h4⟩:=XS (Aa:=Aa) (d:=d) (q:=q) (k:=k) (x:=x) (b:=b) (r0:=r0) (t0:=t0) (rr:=r') (x5:=x5) (y5:=y5) ht hq hj hj2 hu
 have p0:(0:Int) < (ts.length:Int):=by exact qG ‹_›
 exact⟨_,_,_,_,o18,r',TS.ifT (b:=ON) (QE (aa 3 (.b .z)) fun q=>q p0) (h1.app (h2.app (h3.app h4)))⟩
end
section
variable{Aa:List Int}{d k n m m' i j:Nat}{t q r u:Aj}{ts:List Aj}{ns:Option (List TV)}{r0:List TV}{t0:TV}{rr:List Int}{x5:List TV}{y5 x b:TV}
theorem Uk(ht:Bf true 2 t)(hq:Bf true 1 q):BL Aa (d+13) (Fk.drop 15) (GR t q k (some (.f x)) none (some (.f b)) none) (A4 r0 t0 rr x5 y5) (.ok (.s (.bool true))):=by
 have v:=G2 (Aa:=Aa) (d:=d+8) 2 ht
 have w:=LQ ht 64 (by decide)
 by_cases h:∃ts ns,t=.list ts ns/\0 < ts.length
 .obtain ⟨ts,ns,rfl,h0⟩:=h
  obtain⟨j1,j2,o8,o17,o18,r',h1⟩:=ZA (Aa:=Aa) (d:=d) (q:=q) (k:=k) (x:=x) (b:=b) (r0:=r0) (t0:=t0) (rr:=rr) (x5:=x5) (y5:=y5) ht hq h0
  exact BL.app h1 (QZ (.a (.d .z)) fun q=>q v rfl w)
 .have h1:=TZ (Aa:=Aa) (d:=d) (q:=q) (k:=k) (x:=x) (b:=b) (r0:=r0) (t0:=t0) (rr:=rr) (x5:=x5) (y5:=y5) ht (fun ts ns e=>Classical.byContradiction fun hn=>h ⟨ts,ns,e,List.length_pos_iff.mpr hn⟩)
  exact BL.app h1 (QZ (.a (.d .z)) fun q=>q v rfl w)
theorem AY:TR Aa 16 .AY [sv .ext] [] (.ok (.s (.bool true)) []):=by
 obtain⟨r,r0,t0,h0⟩:=Zy (Aa:=Aa) (d:=14)
 obtain⟨t,q,r1,ht,hq,h1⟩:=ZF (Aa:=Aa) (d:=8) (r0:=r0) (t0:=t0) (r:=r)
 obtain⟨r2,y,h2⟩:=QU (Aa:=Aa) (d:=3) (r0:=r0) (t0:=t0) (rr:=r1) ht hq
 obtain⟨k,x,r3,hk,h3⟩:=VE (Aa:=Aa) (d:=3) (r0:=r0) (t0:=t0) (rr:=r2) (x5:=Kx) (y5:=y) ht hq
 have h4:=Uk (Aa:=Aa) (d:=2) (k:=k) (x:=x) (b:=(Do t).w) (r0:=r0) (t0:=t0) (rr:=r3) (x5:=Kx) (y5:=y) ht hq
 exact QB (f:= .AY) (args:=[sv .ext]) (r:= .ok (.s (.bool true))) rfl rfl (BL.app h0 (BL.app h1 (BL.app h2 (BL.app h3 h4))))
end
theorem plain_law(s:List Int):∃H',DY prog s F7 initOf 16 .AY [.ext] [.tab]=.ok (.bool true) H'/\H'[0]? =some .tab:=T5 s AY
end P
open PySem PySem.W PyProof.Rows PySem.Calls PySem.SeqAt
noncomputable def Er:= @List.getElem?_eq_some_iff
noncomputable def CW:= @List.forall_mem_cons
noncomputable def Qu:= @List.length_append
noncomputable def As:= @wpAny_bind
noncomputable def BE:= @wpAny_pure
noncomputable def Ds:= @Heap.get?_push_of_some
noncomputable def DN:= @Bool.and_eq_true
noncomputable def BF:= @List.prefix_refl
noncomputable def Da:= @List.mem_append_right
noncomputable def B0:= @List.mem_append_left
noncomputable def wd(i:Nat):Str:=if i < 38 then Str.ofString (SU.getD i "?")else⟨#[2000000+i]⟩
noncomputable def X7(i:Int):Str:=Str.ofString (toString i)
structure Un where
 prog:Program
 w:World
 K:Frag
 p:Program
 loose:List Str
 mean:ExcName->Option Value
 mg:Str->Option Value
 mb:Str->Option Value
 cls:Dx->Addr
 sa:Addr
 Aa:List Int
 pin:Addr->Option Obj:=fun J=>none
 tabA:Addr
noncomputable abbrev A9:=List (Addr×Addr)
noncomputable def VR(sa:Addr)(ρ:A9):V->Value->Prop
 | .none,v=>v=.none
 | .bool b,v=>v=.bool b
 | .int i,v=>∃t,v=.int i t
 | .w i,v=>∃t,v=.str (wd i) t
 | .dec i,v=>∃t,v=.str (X7 i) t
 | .ref a,v=>∃p,ρ[a]? =some p/\v=.ref p.1
 | .ext,v=>v=.ref sa
theorem Di{ρ ρ':A9}(h:ρ <+:ρ'){a:Nat}{p}(e:ρ[a]? =some p):ρ'[a]? =some p:=by
 obtain⟨t,rfl⟩:=h
 rw[List.getElem?_append_left (Er.mp e).1];exact e
theorem VR.mono{sa:Addr}{ρ ρ':A9}(h:ρ <+:ρ'):∀{v:V} {x:Value},VR sa ρ v x->VR sa ρ' v x
 | .none,_,e=>e
 | .bool _,_,e=>e
 | .int _,_,e=>e
 | .w _,_,e=>e
 | .dec _,_,e=>e
 | .ref _,_,⟨p,e,q⟩=>⟨p,Di h e,q⟩
 | .ext,_,e=>e
noncomputable def C3(sa:Addr)(ρ:A9):List V->List Value->Prop
 | [],[]=>True
 | v::vs,x::xs=>VR sa ρ v x/\C3 sa ρ vs xs
 | _,_=>False
theorem C3.mono{sa:Addr}{ρ ρ':A9}(h:ρ <+:ρ'):∀{vs:List V} {xs:List Value},C3 sa ρ vs xs->C3 sa ρ' vs xs
 | [],[],_=>trivial
 | _::_,_::_,⟨a,b⟩=>⟨a.mono h,C3.mono h b⟩
 | [],_::_,e=>e.elim
 | _::_,[],e=>e.elim
noncomputable def F5(sa:Addr)(ρ:A9):List (Nat×V)->List (Str×Value)->Prop
 | [],[]=>True
 | p::r,e::es=>e.1=wd p.1/\VR sa ρ p.2 e.2/\F5 sa ρ r es
 | _,_=>False
noncomputable def Mg(sa:Addr)(ρ:A9):List (Int×V)->List (Int×Value)->Prop
 | [],[]=>True
 | p::r,e::es=>e.1=p.1/\VR sa ρ p.2 e.2/\Mg sa ρ r es
 | _,_=>False
noncomputable def Kd(sa:Addr)(ρ:A9):List (Nat×V)->List DictEntry->Prop
 | [],[]=>True
 | p::r,e::es=>(∃t,e.key=.str (wd p.1) t)/\VR sa ρ p.2 e.val/\Kd sa ρ r es
 | _,_=>False
theorem F5.mono{sa:Addr}{ρ ρ':A9}(h:ρ <+:ρ'):∀{vs:List (Nat×V)} {xs:List (Str×Value)},F5 sa ρ vs xs->F5 sa ρ' vs xs
 | [],[],_=>trivial
 | _::_,_::_,⟨a,c,d⟩=>⟨a,c.mono h,F5.mono h d⟩
 | [],_::_,e=>e.elim
 | _::_,[],e=>e.elim
theorem Mg.mono{sa:Addr}{ρ ρ':A9}(h:ρ <+:ρ'):∀{vs:List (Int×V)} {xs:List (Int×Value)},Mg sa ρ vs xs->Mg sa ρ' vs xs
 | [],[],_=>trivial
 | _::_,_::_,⟨a,c,d⟩=>⟨a,c.mono h,Mg.mono h d⟩
 | [],_::_,e=>e.elim
 | _::_,[],e=>e.elim
theorem Kd.mono{sa:Addr}{ρ ρ':A9}(h:ρ <+:ρ'):∀{vs:List (Nat×V)} {xs:List DictEntry},Kd sa ρ vs xs->Kd sa ρ' vs xs
 | [],[],_=>trivial
 | _::_,_::_,⟨a,c,d⟩=>⟨a,c.mono h,Kd.mono h d⟩
 | [],_::_,e=>e.elim
 | _::_,[],e=>e.elim
noncomputable abbrev Qc(vs:List Value):Obj:={ cls:= .type "tuple",data:= .seq vs.toArray}
noncomputable def CU:Str:=Str.ofString "law"++".<locals>."++"<lambda>"
noncomputable def Lp(ps:List Value)(codes:List (Addr×Obj)):Prop:=
 ∀pos cv,codeAmong pos ps=some cv->∃c' oc vs t,cv=.ref c'/\(c',oc) ∈ codes/\oc.data=.fields vs/\vs[1]? =some (.str CU t)
noncomputable def CR(U:Un)(ρ:A9)(c:Af)(a:Addr×Addr)(l:List (Addr×Obj)):Prop:=match c with
 | .list xs=>∃vs n,l=[(a.1,W.listOf (List.toArray vs) n)]/\C3 U.sa ρ xs vs
 | .tup xs=>∃vs,l=[(a.1,Qc vs)]/\C3 U.sa ρ xs vs
 | .dictW kvs=>∃o es,l=[(a.1,o)]/\o.IsDictOf (PySem.strKind U.prog U.w) es/\F5 U.sa ρ kvs es
 | .dictP kvs=>∃o es,l=[(a.1,o)]/\o.IsDictOf (PySem.strKind U.prog U.w) es/\F5 U.sa ρ kvs es/\U.pin a.1=some o
 | .dictI kvs=>∃o es,l=[(a.1,o)]/\o.IsDictOf (PySem.intKind U.prog U.w) es/\Mg U.sa ρ kvs es
 | .inst k fs=>∃es n,l=[(a.1,instObj (U.cls k) a.2),(a.2,W.dictOf es n)]/\Kd U.sa ρ fs es
 | .tab=>∃ps codes,l=(a.1,tabObj ps)::codes/\a.1=U.tabA/\TriplesOk ps.toList/\Lp ps.toList codes
theorem CR.mono{U:Un}{ρ ρ':A9}(h:ρ <+:ρ'){c:Af}{a:Addr×Addr}{l:List (Addr×Obj)}(x:CR U ρ c a l):CR U ρ' c a l:=by
 cases c with
 | list xs=>obtain⟨vs,n,e,v⟩:=x;exact⟨vs,n,e,v.mono h⟩
 | tup xs=>obtain⟨vs,e,v⟩:=x;exact⟨vs,e,v.mono h⟩
 | dictW xs=>obtain⟨vs,n,e,d,v⟩:=x;exact⟨vs,n,e,d,v.mono h⟩
 | dictP xs=>obtain⟨vs,n,e,d,v,p⟩:=x;exact⟨vs,n,e,d,v.mono h,p⟩
 | dictI xs=>obtain⟨vs,n,e,d,v⟩:=x;exact⟨vs,n,e,d,v.mono h⟩
 | inst k xs=>obtain⟨vs,n,e,v⟩:=x;exact⟨vs,n,e,v.mono h⟩
 | tab=>exact x
noncomputable def PR(U:Un)(ρ:A9):MH->A9->List (List (Addr×Obj))->Prop
 | [],[],[]=>True
 | c::H,a::r,l::ps=>CR U ρ c a l/\PR U ρ H r ps
 | _,_,_=>False
theorem PR.mono{U:Un}{ρ ρ':A9}(h:ρ <+:ρ'):∀{H:MH} {r:A9} {ps:List (List (Addr×Obj))},PR U ρ H r ps->PR U ρ' H r ps
 | [],[],[],_=>trivial
 | _::_,_::_,_::_,⟨a,b⟩=>⟨a.mono h,PR.mono h b⟩
 | [],[],_::_,e=>e.elim
 | [],_::_,_,e=>e.elim
 | _::_,[],_,e=>e.elim
 | _::_,_::_,[],e=>e.elim
theorem PR.len{U:Un}{ρ:A9}:∀{H:MH} {r:A9} {ps:List (List (Addr×Obj))},PR U ρ H r ps->r.length=H.length
 | [],[],[],_=>rfl
 | _::_,_::_,_::_,⟨_,b⟩=>congrArg (·+1) b.len
 | [],[],_::_,e=>e.elim
 | [],_::_,_,e=>e.elim
 | _::_,[],_,e=>e.elim
 | _::_,_::_,[],e=>e.elim
theorem PR.push{U:Un}{ρ:A9}{c:Af}{a:Addr×Addr}{l:List (Addr×Obj)}(x:CR U ρ c a l):∀{H:MH} {r:A9} {ps:List (List (Addr×Obj))},PR U ρ H r ps->PR U ρ (H++[c]) (r++[a]) (ps++[l])
 | [],[],[],_=>⟨x,trivial⟩
 | _::_,_::_,_::_,⟨a,b⟩=>⟨a,b.push x⟩
 | [],[],_::_,e=>e.elim
 | [],_::_,_,e=>e.elim
 | _::_,[],_,e=>e.elim
 | _::_,_::_,[],e=>e.elim
inductive PR.atI(U:Un)(ρ:A9)(H:MH)(r:A9)(ps:List (List (Addr×Obj)))(i:Nat)(c:Af):Prop
 | mk (a:_) (l:_) (pre:_) (post:_) (q0:r[i]? =some a) (q1:ps=pre++l::post) (q2:CR U ρ c a l) (q3:∀c' l',CR U ρ c' a l'->PR U ρ (H.set i c') r (pre++l'::post)):PR.atI U ρ H r ps i c
theorem PR.at{U:Un}{ρ:A9}:∀{H:MH} {r:A9} {ps:List (List (Addr×Obj))} {i:Nat} {c:Af},PR U ρ H r ps->H[i]? =some c->
  PR.atI U ρ H r ps i c
 | [],_,_,_,_,_,e=>by simp at e
 | _::_,[],_,_,_,x,_=>x.elim
 | _::_,_::_,[],_,_,x,_=>x.elim
 | c₀::H,a::r,l::ps,0,c,⟨x,y⟩,e=>by
  simp only [List.getElem?_cons_zero,Option.some.injEq]at e
  subst e
  exact⟨a,l,[],ps,rfl,rfl,x,fun c' l' z=>⟨z,y⟩⟩
 | c₀::H,a::r,l::ps,i+1,c,⟨x,y⟩,e=>by
  rw[List.getElem?_cons_succ]at e
  obtain⟨a',l',pre,post,e1,e2,e3,e4⟩:=y.at e
  exact⟨a',l',l::pre,post,e1,by rw[e2];rfl,e3,fun c' l'' z=>⟨x,e4 c' l'' z⟩⟩
noncomputable def By(l:List (Addr×Obj)):Prop:=(l.map (·.1)).Nodup
inductive FS(U:Un)(G:Heap)(L:Addr)(m:Str->Option Value)(px:List (Addr×Obj))(ρ:A9)(H:MH)(h:Heap):Prop
 | mk (fr:Fr G L h m) (ps:_) (q0:PR U ρ H ρ ps) (q1:News G L h (px++ps.flatten)) (q2:By (px++ps.flatten)) (q3:∀p ∈ ps.flatten,3 < p.1):FS U G L m px ρ H h
theorem FS.fr{U:Un}{G:Heap}{L:Addr}{m:Str->Option Value}{px:List (Addr×Obj)}{ρ:A9}{H:MH}{h:Heap}(x:FS U G L m px ρ H h):Fr G L h m:=x.rec fun F J J J J J=>F
theorem BQ{l l':List (Addr×Obj)}(p:l.Perm l')(d:By l):By l':=(p.map _).nodup_iff.mp d
theorem Gw{l n:List (Addr×Obj)}(d:By l)(dn:By n)(h:∀p ∈ n,∀q ∈ l,q.1 < p.1):By (n++l):=by
 unfold By at *
 rw[List.map_append,List.nodup_append]
 refine⟨dn,d,fun a ha b hb e=> ?_⟩
 obtain⟨p,hp,rfl⟩:=List.mem_map.mp ha
 obtain⟨q,hq,rfl⟩:=List.mem_map.mp hb
 exact absurd (h p hp q hq) (by rw[e];exact Nat.lt_irrefl _)
section
variable{U:Un}{G:Heap}{L:Addr}{m:Str->Option Value}{px:List (Addr×Obj)}{ρ:A9}{H:MH}{h h':Heap}
theorem DE{l l':List (Addr×Obj)}(N:News G L h l)(s:∀p ∈ l',p ∈ l):News G L h l':=fun p hp=>N p (s p hp)
theorem FS.len(x:FS U G L m px ρ H h):ρ.length=H.length:=x.rec fun J J p J J J=>p.len
theorem FS.keeps(x:FS U G L m px ρ H h)(k:∀b o,h.get? b=some o->h'.get? b=some o):FS U G L m px ρ H h':=by
 obtain⟨F,ps,p,N,d,lo⟩:=x
 exact⟨F.keeps k,ps,p,N.grown k,d,lo⟩
inductive FS.allI(U:Un)(G:Heap)(L:Addr)(m:Str->Option Value)(px:List (Addr×Obj))(ρ:A9)(H:MH)(h:Heap):Prop
 | mk (l:_) (q0:News G L h l) (q1:By l) (q2:(∀p ∈ px,p ∈ l)) (q3:∀(c:Af) (a:Addr×Addr) (n:List (Addr×Obj)) (h':Heap),Fr G L h' m->News G L h' (n++l)->(∀p ∈ n,∀q ∈ l,q.1 < p.1)->By n->(∀p ∈ n,3 < p.1)->CR U (ρ++[a]) c a n->FS U G L m px (ρ++[a]) (H++[c]) h'):FS.allI U G L m px ρ H h
theorem FS.all(x:FS U G L m px ρ H h):FS.allI U G L m px ρ H h:=by
 obtain⟨F,ps,p,N,d,lo⟩:=x
 refine⟨_,N,d,fun p hp=>B0 _ hp,fun c a n h' F' N' hl dn lo' y=>⟨F',ps++[n],(p.mono (List.prefix_append ..)).push y,?_,?_,?_⟩⟩
 .refine DE N' fun q hq=> ?_
  simp only [List.flatten_append,List.flatten_cons,List.flatten_nil,List.append_nil,List.mem_append]at hq ⊢
  rcases hq with hq | hq | hq
  .exact .inr (.inl hq)
  .exact .inr (.inr hq)
  .exact .inl hq
 .have:=Gw d dn hl
  refine BQ ?_ this
  simp only [List.flatten_append,List.flatten_cons,List.flatten_nil,List.append_nil,<-List.append_assoc]
  rw[List.append_assoc]
  exact List.perm_append_comm
 .intro q hq
  simp only [List.flatten_append,List.flatten_cons,List.flatten_nil,List.append_nil,List.mem_append]at hq
  rcases hq with hq | hq
  .exact lo q hq
  .exact lo' q hq
theorem ND{a:Addr}{o o':Obj}:∀{pre post:List (Addr×Obj)},By (pre++(a,o)::post)->W.Upd a o o' (pre++(a,o)::post) (pre++(a,o')::post)
 | [],post,d=> .head fun p hp e=>by
  unfold By at d
  rw[List.nil_append,List.map_cons,List.nodup_cons]at d
  exact d.1 (e▸List.mem_map_of_mem (f:=(·.1)) hp:a ∈ post.map (·.1))
 | q::pre,post,d=>by
  unfold By at d
  rw[List.cons_append,List.map_cons,List.nodup_cons]at d
  refine .tail (fun e=>d.1 ?_) (ND d.2)
  rw[e]
  exact List.mem_map_of_mem (f:=(·.1)) (a:=(a,o)) (by simp)
theorem Ox{a:Addr}{o:Obj}:∀{pre post:List (Addr×Obj)},By (pre++(a,o)::post)->W.UpdF a o (pre++(a,o)::post) fun o'=>pre++(a,o')::post
 | [],post,d=> .head fun p hp e=>by
  unfold By at d
  rw[List.nil_append,List.map_cons,List.nodup_cons]at d
  exact d.1 (e▸List.mem_map_of_mem (f:=(·.1)) hp:a ∈ post.map (·.1))
 | q::pre,post,d=>by
  unfold By at d
  rw[List.cons_append,List.map_cons,List.nodup_cons]at d
  refine .tail (fun e=>d.1 ?_) (Ox d.2)
  rw[e]
  exact List.mem_map_of_mem (f:=(·.1)) (a:=(a,o)) (by simp)
theorem Hp{a:Addr}{o o':Obj}{pre post:List (Addr×Obj)}(d:By (pre++(a,o)::post)):By (pre++(a,o')::post):=by
 unfold By at *
 simpa using d
inductive FS.cellI(U:Un)(G:Heap)(L:Addr)(m:Str->Option Value)(px:List (Addr×Obj))(ρ:A9)(H:MH)(h:Heap)(i:Nat)(c:Af):Prop
 | mk (a:_) (n:_) (pre:_) (post:_) (q0:ρ[i]? =some a) (q1:CR U ρ c a n) (q2:News G L h (pre++n++post)) (q3:By (pre++n++post)) (q4:(∀p ∈ n,3 < p.1)) (q5:(∀p ∈ px,p ∈ pre)) (q6:∀(c':Af) (n':List (Addr×Obj)) (h':Heap),Fr G L h' m->News G L h' (pre++n'++post)->n'.map (·.1)=n.map (·.1)->CR U ρ c' a n'->FS U G L m px ρ (H.set i c') h'):FS.cellI U G L m px ρ H h i c
theorem FS.cell(x:FS U G L m px ρ H h){i:Nat}{c:Af}(e:H[i]? =some c):FS.cellI U G L m px ρ H h i c:=by
 obtain⟨F,ps,p,N,d,lo⟩:=x
 obtain⟨a,n,pre,post,e1,e2,e3,e4⟩:=p.at e
 subst e2
 have w:∀k:List (Addr×Obj),px++(pre++k::post).flatten=(px++pre.flatten)++k++post.flatten:=fun k=>by simp
 rw[w]at N d
 refine⟨a,n,_,_,e1,e3,N,d,fun q hq=>lo q (by simp[hq]),fun q hq=>B0 _ hq,fun c' n' h' F' N' em y=>⟨F',_,e4 c' n' y,by rw[w];exact N',?_,?_⟩⟩
 .rw [w]
  unfold By at *
  simp only [List.map_append]at d ⊢
  rw[em];exact d
 .intro q hq
  have hq':q.1 ∈ (pre++n'::post).flatten.map (·.1):=List.mem_map_of_mem hq
  have:(pre++n'::post).flatten.map (·.1)=(pre++n::post).flatten.map (·.1):=by simp[em]
  rw[this]at hq'
  obtain⟨r,hr,er⟩:=List.mem_map.mp hq'
  rw[<-er];exact lo r hr
end
theorem Xo:∀i,i < 38->∀j,j < 38->wd i=wd j->i=j:=by decide+kernel
theorem Mj:∀i,i < 38->(wd i).cps.all (· < 1000)=true:=by decide+kernel
theorem IX(i:Nat)(h:¬i < 38):wd i=⟨#[2000000+i]⟩:=if_neg h
theorem Np{i j:Nat}(e:wd i=wd j):i=j:=by
 by_cases hi:i < 38
 .by_cases hj:j < 38
  .exact Xo i hi j hj e
  .have:=Mj i hi
   rw[e,IX j hj]at this
   simp at this
   exact(g4 (b:=2000000) this (by rfl)).elim
 .by_cases hj:j < 38
  .have:=Mj j hj
   rw[<-e,IX i hi]at this
   simp at this
   exact(g4 (b:=2000000) this (by rfl)).elim
  .rw [IX i hi,IX j hj]at e
   have:=congrArg PySem.Str.cps e
   simp at this
   omega
theorem OA(i j:Nat):(wd i==wd j)=(i==j):=by
 by_cases h:i=j
 .subst h;simp
 .have:wd i≠wd j:=fun e=>h (Np e)
  rw[beq_eq_false_iff_ne.mpr this,beq_eq_false_iff_ne.mpr h]
structure Yb(U:Un)(c:Dx)(a:Nat):Prop where
 plain:plainGet U.K (U.cls c) (wd a)=true
 taker:takerIn U.K (U.cls c) (wd a)=some none
 find:∃attr,findIn U.K (.ref (U.cls c)) (wd a)=some attr/\noGet U.K attr=true
noncomputable def CV:List Nat:=[0,1,2,3,4,35]
structure UF(U:Un):Prop where
 attr:∀c a,a ∈ CV->Yb U c a
 dict:∀c,hasDictIn U.K (U.cls c)=true
 seta:∀c,findIn U.K (.ref (U.cls c)) "__setattr__"=some (some (.builtin "object.__setattr__"))
 over:∀c,plainOver U.K (U.cls c)=true
structure Tf(bg:Fh):Prop where
 ok:∀i j t,bg i j=some t->Txt.startswith (wd i) (wd j)=t
structure GF(U:Un)(G:Heap):Prop where
 K:U.K.In G
 T:Top U.p U.loose U.mean U.mg U.mb G
 ext:∃vs,G.IsList U.sa (List.toArray vs)/\IntsAre vs U.Aa/\vs.length<=sizeLine
theorem GF.keeps{U:Un}{G G':Heap}(x:GF U G)(k:∀b o,G.get? b=some o->G'.get? b=some o):GF U G':=
 ⟨x.K.keeps k,x.T.keeps k,let⟨vs,a,b⟩:=x.ext;⟨vs,a.at (fun o e=>k _ o e),b⟩⟩
structure Fx where
 G:Heap
 L:Addr
 m:Str->Option Value
 own:List (Addr×Obj)
 ex:List (Addr×Obj)
 base:Heap
 l:List PySem.Env
noncomputable abbrev Fx.px(X:Fx):List (Addr×Obj):=X.own++X.ex
noncomputable abbrev AL(U:Un)(X:Fx)(ρ:A9)(H:MH)(h:Heap):Prop:=FS U X.G X.L X.m X.px ρ H h
inductive fP(h base:Heap)(e:Addr)(cls:Value)(d L:Addr):Prop
 | mk (oe:_) (vs:_) (q0:h.get? e=some oe) (q1:oe.cls=cls) (q2:oe.dict=some d) (q3:oe.data=.fields vs) (q4:1 < vs.size) (q5:(vs[1]? =some .none\/∃T oT ts,vs[1]? =some (.ref T)/\base.get? T=none/\T≠e/\h.get? T=some oT/\oT.data=.fields ts/\(ts[3]? =some .none\/ts[3]? =some (rawInt L)))):fP h base e cls d L
inductive EJ(cls:Value)(base:Heap)(l:List PySem.Env)(L:Addr)(e:Addr)(msg:Nat)(news:List (Addr×Obj))(h:Heap):Prop
 | mk (B:_) (d:_) (es:_) (n:_) (t:_) (q0:base.StaysIn B) (q1:(∀q ∈ news,B.get? q.1=some q.2/\base.get? q.1=none)) (q2:B.StaysIn h) (q3:B.get? e=none) (q4:h.FunFrames B l) (q5:fP h B e cls d L) (q6:B.get? d=some (W.dictOf es n)) (q7:getL "message" es=some (some (.str (wd msg) t))):EJ cls base l L e msg news h
inductive Sp(U:Un)(cls:Value)(X:Fx)(msg:Nat)(ρ':A9)(H':MH)(e:Addr)(h':Heap):Prop
 | mk (ps:_) (h₂:_) (q0:PR U ρ' H' ρ' ps) (q1:By (X.px++ps.flatten)) (q2:(∀p ∈ ps.flatten,3 < p.1)) (q3:EJ cls X.base X.l X.L e msg (X.px++ps.flatten) h') (q4:Fr X.G X.L h₂ X.m) (q5:h₂.UpToSlots h'):Sp U cls X msg ρ' H' e h'
section
variable{α β α' β':Type}{U:Un}{xc:Value}{X:Fx}{ρ:A9}{H:MH}{s:Shared}{E:Value->Shared->Prop}
noncomputable def Ae(rel:A9->α->β->Prop)(U:Un)(xc:Value)(X:Fx)(ρ:A9)(r:R α)(Q:β->Shared->Prop)(E:Value->Shared->Prop)(s:Shared):Prop:=match r with
 | .ok v H'=>∀ρ' v' h' CG,ρ <+:ρ'->AL U X ρ' H' h'->rel ρ' v v'->Q v' { s with heap:=h',toks:=CG}
 | .exc msg H'=>∀ρ' e h' CG,ρ <+:ρ'->Sp U xc X msg ρ' H' e h'->E (.ref e) { s with heap:=h',toks:=CG}
 | .bad=>False
theorem Ae.bnd{rel1:A9->α->β->Prop}{rel2:A9->α'->β'->Prop}{m:M α}{f:α->M α'}{Q:β'->Shared->Prop}{Q1:β->Shared->Prop}
  (hp:Ae rel2 U xc X ρ (Mine.bnd m f H) Q E s)
  (k:∀a H1 ρ1 a' h1 Bk,m H=.ok a H1->ρ <+:ρ1->AL U X ρ1 H1 h1->rel1 ρ1 a a'->Ae rel2 U xc X ρ1 (f a H1) Q E { s with heap:=h1,toks:=Bk}->Q1 a' { s with heap:=h1,toks:=Bk}):
  Ae rel1 U xc X ρ (m H) Q1 E s:=by
 unfold Mine.bnd at hp
 unfold Ae at hp ⊢
 cases e:m H with
 | ok a H1=>
  rw[e]at hp
  dsimp only at hp ⊢
  intro ρ1 a' h1 Bk l1 F1 r1
  refine k a H1 ρ1 a' h1 Bk e l1 F1 r1 ?_
  unfold Ae
  cases e2:f a H1 with
  | ok v H'=>rw[e2]at hp;exact fun ρ' v' h' CG l'=>hp ρ' v' h' CG (l1.trans l')
  | exc msg H'=>rw[e2]at hp;exact fun ρ' e' h' CG l'=>hp ρ' e' h' CG (l1.trans l')
  | bad=>rw[e2]at hp;exact hp
 | exc msg H'=>rw[e]at hp;exact hp
 | bad=>rw[e]at hp;exact hp
section
variable{f:Af->M α}{Q:β->Shared->Prop}{rel:A9->α->β->Prop}
theorem Dk{γ:Type}{o:Option γ}{k:γ->M α}{P:Prop}(hp:Ae rel U xc X ρ (Mine.bnd (Cp o) k H) Q E s)(f:∀a,o=some a->Ae rel U xc X ρ (k a H) Q E s->P):P:=by
 cases o with
 | none=>exact hp.elim
 | some a=>exact f a rfl hp
theorem Bx{v:V}{P:V->Prop}(hp:Ae rel U xc X ρ (Mine.bnd (B4 v) f H) Q E s)(k:∀a c,H[a]? =some c->Ae rel U xc X ρ (f c H) Q E s->P (.ref a)):P v:=
 @V.casesOn (fun v=>Ae rel U xc X ρ (Mine.bnd (B4 v) f H) Q E s->P v) v (fun h=>h.elim) (fun J h=>h.elim) (fun J h=>h.elim) (fun J h=>h.elim) (fun J h=>h.elim) (fun a h=>Dk (o:=H[a]?) h (k a)) (fun h=>h.elim) hp
theorem Fz{v:V}{k:Nat->Af->M α}{P:V->Prop}(hp:Ae rel U xc X ρ (Jw v k H) Q E s)(f:∀a c,H[a]? =some c->Ae rel U xc X ρ (k a c H) Q E s->P (.ref a)):P v:=
 @V.casesOn (fun v=>Ae rel U xc X ρ (Jw v k H) Q E s->P v) v (fun h=>h.elim) (fun J h=>h.elim) (fun J h=>h.elim) (fun J h=>h.elim) (fun J h=>h.elim) (fun a h=>Dk (o:=H[a]?) h (f a)) (fun h=>h.elim) hp
theorem O1{v:V}(hp:Ae rel U xc X ρ (Mine.bnd (B4 v) f H) Q E s):∃a c,v=.ref a/\H[a]? =some c/\Ae rel U xc X ρ (f c H) Q E s:=by
 exact Bx (P:=fun v=>∃a c,v=.ref a/\H[a]? =some c/\Ae rel U xc X ρ (f c H) Q E s) hp fun a c e hp=>⟨a,c,rfl,e,hp⟩
theorem E6{v:V}{k:Int->M α}{P:V->Prop}(hp:Ae rel U xc X ρ (vI v bad k H) Q E s)(f:∀i,Ae rel U xc X ρ (k i H) Q E s->P (.int i)):P v:=
 @V.casesOn (fun v=>Ae rel U xc X ρ (vI v bad k H) Q E s->P v) v (fun h=>h.elim) (fun J h=>h.elim) f (fun J h=>h.elim) (fun J h=>h.elim) (fun J h=>h.elim) (fun h=>h.elim) hp
theorem HC{v:V}{k:Nat->M α}{P:V->Prop}(hp:Ae rel U xc X ρ (vW v bad k H) Q E s)(f:∀i,Ae rel U xc X ρ (k i H) Q E s->P (.w i)):P v:=
 @V.casesOn (fun v=>Ae rel U xc X ρ (vW v bad k H) Q E s->P v) v (fun h=>h.elim) (fun J h=>h.elim) (fun J h=>h.elim) f (fun J h=>h.elim) (fun J h=>h.elim) (fun h=>h.elim) hp
theorem V6{v:V}{k:Nat->M α}{P:V->Prop}(hp:Ae rel U xc X ρ (vR v bad k H) Q E s)(f:∀i,Ae rel U xc X ρ (k i H) Q E s->P (.ref i)):P v:=
 @V.casesOn (fun v=>Ae rel U xc X ρ (vR v bad k H) Q E s->P v) v (fun h=>h.elim) (fun J h=>h.elim) (fun J h=>h.elim) (fun J h=>h.elim) (fun J h=>h.elim) f (fun h=>h.elim) hp
theorem El{a b:V}{k:Int->Int->M α}{P:V->V->Prop}(hp:Ae rel U xc X ρ (Hb a b k H) Q E s)(f:∀x y,Ae rel U xc X ρ (k x y H) Q E s->P (.int x) (.int y)):P a b:=
 E6 (P:=fun a=>P a b) hp fun x hp=>E6 (P:=P (.int x)) hp (f x)
theorem EK{c:Af}{k:List V->M α}{P:Af->Prop}(hp:Ae rel U xc X ρ (cL c bad k H) Q E s)(f:∀i,Ae rel U xc X ρ (k i H) Q E s->P (.list i)):P c:=
 @Af.casesOn (fun c=>Ae rel U xc X ρ (cL c bad k H) Q E s->P c) c f (fun J h=>h.elim) (fun J h=>h.elim) (fun J h=>h.elim) (fun J h=>h.elim) (fun J J h=>h.elim) (fun h=>h.elim) hp
theorem aY{c:Af}{k:List V->M α}{P:Af->Prop}(hp:Ae rel U xc X ρ (cT c bad k H) Q E s)(f:∀i,Ae rel U xc X ρ (k i H) Q E s->P (.tup i)):P c:=
 @Af.casesOn (fun c=>Ae rel U xc X ρ (cT c bad k H) Q E s->P c) c (fun J h=>h.elim) f (fun J h=>h.elim) (fun J h=>h.elim) (fun J h=>h.elim) (fun J J h=>h.elim) (fun h=>h.elim) hp
theorem Sg{c:Af}{k:List (Nat×V)->M α}{P:Af->Prop}(hp:Ae rel U xc X ρ (cD c bad k H) Q E s)(f:∀i,Ae rel U xc X ρ (k i H) Q E s->P (.dictW i)):P c:=
 @Af.casesOn (fun c=>Ae rel U xc X ρ (cD c bad k H) Q E s->P c) c (fun J h=>h.elim) (fun J h=>h.elim) f (fun J h=>h.elim) (fun J h=>h.elim) (fun J J h=>h.elim) (fun h=>h.elim) hp
theorem Qw{c:Af}{k:Dx->List (Nat×V)->M α}{P:Af->Prop}(hp:Ae rel U xc X ρ (cN c bad k H) Q E s)(f:∀j i,Ae rel U xc X ρ (k j i H) Q E s->P (.inst j i)):P c:=
 @Af.casesOn (fun c=>Ae rel U xc X ρ (cN c bad k H) Q E s->P c) c (fun J h=>h.elim) (fun J h=>h.elim) (fun J h=>h.elim) (fun J h=>h.elim) (fun J h=>h.elim) f (fun h=>h.elim) hp
theorem CA{c:Prop}[Decidable c]{m:M α}{P:Prop}(hp:Ae rel U xc X ρ ((if c then m else bad) H) Q E s)(f:c->Ae rel U xc X ρ (m H) Q E s->P):P:=by
 by_cases h:c
 .rw [if_pos h]at hp;exact f h hp
 .rw [if_neg h]at hp;exact hp.elim
theorem Ae.as{γ δ:Type}{m:M γ}{g:γ->M δ}{h:δ->M α}(hp:Ae rel U xc X ρ (Mine.bnd (Mine.bnd m g) h H) Q E s):Ae rel U xc X ρ (Mine.bnd m (fun c=>Mine.bnd (g c) h) H) Q E s:=by
 unfold Mine.bnd at hp ⊢
 cases e:m H<;>rw[e]at hp<;>exact hp
theorem Xl{γ:Type}{v:V}{k:Int->M γ}{g:γ->M α}{P:V->Prop}(hp:Ae rel U xc X ρ (Mine.bnd (vI v bad k) g H) Q E s)(f:∀i,Ae rel U xc X ρ (Mine.bnd (k i) g H) Q E s->P (.int i)):P v:=
 @V.casesOn (fun v=>Ae rel U xc X ρ (Mine.bnd (vI v bad k) g H) Q E s->P v) v (fun h=>h.elim) (fun J h=>h.elim) f (fun J h=>h.elim) (fun J h=>h.elim) (fun J h=>h.elim) (fun h=>h.elim) hp
theorem K3{γ:Type}{v:V}{k:Nat->M γ}{g:γ->M α}{P:V->Prop}(hp:Ae rel U xc X ρ (Mine.bnd (vW v bad k) g H) Q E s)(f:∀i,Ae rel U xc X ρ (Mine.bnd (k i) g H) Q E s->P (.w i)):P v:=
 @V.casesOn (fun v=>Ae rel U xc X ρ (Mine.bnd (vW v bad k) g H) Q E s->P v) v (fun h=>h.elim) (fun J h=>h.elim) (fun J h=>h.elim) f (fun J h=>h.elim) (fun J h=>h.elim) (fun h=>h.elim) hp
theorem SM{γ:Type}{c:Af}{k:List V->M γ}{g:γ->M α}{P:Af->Prop}(hp:Ae rel U xc X ρ (Mine.bnd (cL c bad k) g H) Q E s)(f:∀i,Ae rel U xc X ρ (Mine.bnd (k i) g H) Q E s->P (.list i)):P c:=
 @Af.casesOn (fun c=>Ae rel U xc X ρ (Mine.bnd (cL c bad k) g H) Q E s->P c) c f (fun J h=>h.elim) (fun J h=>h.elim) (fun J h=>h.elim) (fun J h=>h.elim) (fun J J h=>h.elim) (fun h=>h.elim) hp
theorem QY{γ:Type}{v:V}{k:Nat->Af->M γ}{g:γ->M α}(hp:Ae rel U xc X ρ (Mine.bnd (Jw v k) g H) Q E s):∃a c,v=.ref a/\H[a]? =some c/\Ae rel U xc X ρ (Mine.bnd (k a c) g H) Q E s:=by
 cases v with
 | ref a=>exact Dk (o:=H[a]?) (Ae.as hp) fun c e hp=>⟨a,c,rfl,e,hp⟩
 | _=>exact hp.elim
theorem Gc{γ:Type}{c:Prop}[Decidable c]{m:M γ}{g:γ->M α}{P:Prop}(hp:Ae rel U xc X ρ (Mine.bnd (if c then m else bad) g H) Q E s)(f:c->Ae rel U xc X ρ (Mine.bnd m g H) Q E s->P):P:=by
 by_cases h:c
 .rw [if_pos h]at hp;exact f h hp
 .rw [if_neg h]at hp;exact hp.elim
theorem Fd{o:Option α}{P:Prop}(hp:Ae rel U xc X ρ (Cp o H) Q E s)(f:∀a,o=some a->Ae rel U xc X ρ (.ok a H) Q E s->P):P:=by
 cases o with
 | none=>exact hp.elim
 | some a=>exact f a rfl hp
end
theorem FE{α β:Type}{m:M α}{f:α->M β}{H H':MH}{a:α}(e:m H=.ok a H'):Mine.bnd m f H=f a H':=by unfold Mine.bnd;rw[e]
theorem Gl{α β:Type}{m:M α}{f:α->M β}{H:MH}(e:m H=.bad):Mine.bnd m f H=.bad:=by unfold Mine.bnd;rw[e]
theorem Tl{H:MH}{a:Nat}{c:Af}(e:H[a]? =some c):B4 (.ref a) H=.ok c H:=by
 show Cp H[a]? H=_
 rw[e];rfl
theorem C7{β:Type}{f:Af->M β}{H:MH}{a:Nat}{c:Af}(e:H[a]? =some c):Mine.bnd (B4 (.ref a)) f H=f c H:=FE (Tl e)
theorem GE{β:Type}{f:Af->M β}{H:MH}{a:Nat}(e:H[a]? =none):Mine.bnd (B4 (.ref a)) f H=.bad:=by
 unfold Mine.bnd
 rw[show B4 (.ref a) H=.bad by show Cp H[a]? H=_;rw[e];rfl]
theorem DX{i:Nat}{c:Af}(H:MH):(stays (.ref i) c H=.ok () H/\H[i]? =some c)\/stays (.ref i) c H=.bad:=by
 cases e:H[i]? with
 | none=>exact .inr (GE e)
 | some c'=>
  by_cases q:c'=c
  .exact .inl ⟨(C7 e).trans (congrFun (if_pos q) H),congrArg some q⟩
  .exact .inr ((C7 e).trans (congrFun (if_neg q) H))
theorem Mm{β:Type}{f:List V->M β}{H:MH}{a:Nat}{xs:List V}(e:H[a]? =some (.list xs))(hl:xs.length<=BR):Mine.bnd (Hz (.ref a)) f H=f xs H:=FE ((C7 e).trans (congrFun (if_pos hl) H))
theorem Me{β:Type}{f:List (Nat×V)->M β}{H:MH}{a:Nat}{xs:List (Nat×V)}(e:H[a]? =some (.dictW xs))(hl:xs.length < 100):Mine.bnd (Mine.getD (.ref a)) f H=f xs H:=FE ((C7 e).trans (congrFun (if_pos hl) H))
theorem TQ{β:Type}{f:Af->M β}{v:V}{H:MH}:Mine.bnd (B4 v) f H=.bad\/∃a c,v=.ref a/\H[a]? =some c/\Mine.bnd (B4 v) f H=f c H:=by
 cases v with
 | ref a=>
  cases e:H[a]? with
  | none=>exact .inl (GE e)
  | some c=>exact .inr ⟨a,c,rfl,e,C7 e⟩
 | _=>exact .inl rfl
theorem WC{α:Type}{c:Prop}[Decidable c]{m:M α}{H:MH}:(if c then m else bad) H=.bad\/(c/\(if c then m else bad) H=m H):=by
 by_cases h:c
 .exact .inr ⟨h,congrFun (if_pos h) H⟩
 .exact .inl (congrFun (if_neg h) H)
theorem SY{α:Type}{v:V}{k:Int->M α}{H:MH}:vI v bad k H=.bad\/∃i,v=.int i/\vI v bad k H=k i H:=by
 cases v with
 | int i=>exact .inr ⟨i,rfl,rfl⟩
 | _=>exact .inl rfl
theorem Uw{β:Type}{f:List V->M β}{a:Nat}{c:Af}{H:MH}(e:H[a]? =some c):Mine.bnd (Hz (.ref a)) f H=.bad\/∃xs,c=.list xs/\xs.length<=BR/\Mine.bnd (Hz (.ref a)) f H=f xs H:=by
 cases c with
 | list xs=>
  by_cases h:xs.length<=BR
  .exact .inr ⟨xs,rfl,h,Mm e h⟩
  .exact .inl (Gl ((C7 e).trans (congrFun (if_neg h) H)))
 | _=>exact .inl (Gl (C7 e))
theorem Vf{β:Type}{f:List (Nat×V)->M β}{v:V}{H:MH}:Mine.bnd (Mine.getD v) f H=.bad\/∃a xs,v=.ref a/\H[a]? =some (.dictW xs)/\xs.length < 100/\Mine.bnd (Mine.getD v) f H=f xs H:=by
 cases v with
 | ref a=>
  cases e:H[a]? with
  | none=>exact .inl (Gl (GE e))
  | some c=>cases c with
   | dictW xs=>
    by_cases h:xs.length < 100
    .exact .inr ⟨a,xs,rfl,e,h,Me e h⟩
    .exact .inl (Gl ((C7 e).trans (congrFun (if_neg h) H)))
   | _=>exact .inl (Gl (C7 e))
 | _=>exact .inl rfl
theorem Xy{α β γ:Type}{m:M α}{g:α->M β}{h:β->M γ}{H:MH}:Mine.bnd (Mine.bnd m g) h H=Mine.bnd m (fun c=>Mine.bnd (g c) h) H:=by
 unfold Mine.bnd
 cases m H<;>rfl
theorem VR.refE{sa:Addr}{ρ:A9}{i:Nat}{x:Value}{P:Value->Prop}(h:VR sa ρ (.ref i) x)(f:∀p,ρ[i]? =some p->P (.ref p.1)):P x:=h.elim fun p q=>q.2▸f p q.1
theorem VR.intE{sa:Addr}{ρ:A9}{i:Int}{x:Value}{P:Value->Prop}(h:VR sa ρ (.int i) x)(f:∀t,P (.int i t)):P x:=h.elim fun t q=>q▸f t
theorem VR.wE{sa:Addr}{ρ:A9}{i:Nat}{x:Value}{P:Value->Prop}(h:VR sa ρ (.w i) x)(f:∀t,P (.str (wd i) t)):P x:=h.elim fun t q=>q▸f t
noncomputable abbrev Aq(U:Un):A9->V->Value->Prop:=VR U.sa
structure Cx(U:Un)(A:Around)(X:Fx)(Ad:PySem.Env)(n:Nat):Prop where
 B:∃A₀ outer,Below A₀ X.base outer X.G/\X.l=Ad::outer
 hA:A.frames=some X.l
 hf:Ad.frame=some X.L
 hk:Ad.scope.kind=.function
 hh:A.handled=none
 hd:A.depth+8 * n+8 < recursionLimit
 hu:A.units+200 * n+800 < cLine
 gf:GF U X.G
theorem VR.handed{sa:Addr}{ρ:A9}{v:V}{x:Value}(h:VR sa ρ v x):handedIn x=true:=by
 cases v<;>simp only [VR]at h
 all_goals first | (subst h;rfl) | (obtain⟨t,rfl⟩:=h;rfl) | (obtain⟨p,_,rfl⟩:=h;rfl)
set_option tactic.hygienic true in
theorem Kd.get{sa:Addr}{ρ:A9}{a:Nat}{v:V}:∀{fs:List (Nat×V)} {es:List DictEntry},Kd sa ρ fs es->Dr a fs=some v->∃x,getL (wd a) es=some (some x)/\VR sa ρ v x
 | [],_,_,e=>by cases e
 | _::_,[],x,_=>x.elim
 | p::r,e::es,⟨⟨t,hk⟩,hv,hr⟩,he=>by
  unfold Dr at he
  unfold getL
  rw[List.find?_cons]
  have hs:e.key.isStr (wd a)=(wd p.1==wd a):=by rw[hk];rfl
  rw[hs,OA]
  by_cases h:p.1=a
  .rw [if_pos h]at he
   rw[beq_iff_eq.mpr h]
   cases he
   exact⟨_,rfl,hv⟩
  .rw [if_neg h]at he
   rw[beq_eq_false_iff_ne.mpr h]
   obtain⟨x,g,w⟩:=hr.get he
   unfold getL at g
   refine⟨x,?_,w⟩
   dsimp only
   split at g
   .rename_i e' q;rw[q];exact g
   .split at g<;>cases g
theorem Kd.some{sa:Addr}{ρ:A9}{a:Nat}:∀{fs:List (Nat×V)} {es:List DictEntry},Kd sa ρ fs es->(getL (wd a) es).isSome=true:=by
 intro fs es h
 have nr:es.any (·.refKey)=false:=by
  induction fs generalizing es with
  | nil=>cases es with
   | nil=>rfl
   | cons _ _=>exact h.elim
  | cons p r ih=>cases es with
   | nil=>exact h.elim
   | cons e es=>
    obtain⟨⟨t,hk⟩,_,hr⟩:=h
    rw[List.any_cons,ih hr]
    simp[DictEntry.refKey,hk]
 unfold getL
 split
 .rfl
 .rw [nr];rfl
theorem Kd.put{sa:Addr}{ρ:A9}{a:Nat}{v:V}{x:Value}{hs:Int}{t:Tok}(hv:VR sa ρ v x):∀{fs:List (Nat×V)} {es:List DictEntry},Kd sa ρ fs es->Kd sa ρ (EX a v fs) (putL (wd a) hs (.str (wd a) t) x es)
 | [],[],_=>⟨⟨t,rfl⟩,hv,trivial⟩
 | [],_::_,h=>h.elim
 | _::_,[],h=>h.elim
 | p::r,e::es,⟨⟨u,hk⟩,hw,hr⟩=>by
  have hs':e.key.isStr (wd a)=(wd p.1==wd a):=by rw[hk];rfl
  unfold EX putL
  rw[hs',OA]
  by_cases h:p.1=a
  .rw [if_pos h,if_pos (beq_iff_eq.mpr h)]
   exact⟨⟨u,by rw[hk,h]⟩,hv,hr⟩
  .rw [if_neg h,if_neg (by rw[beq_eq_false_iff_ne.mpr h];decide)]
   exact⟨⟨u,hk⟩,hw,Kd.put hv hr⟩
theorem Kd.length{sa:Addr}{ρ:A9}:∀{fs:List (Nat×V)} {es:List DictEntry},Kd sa ρ fs es->es.length=fs.length
 | [],[],_=>rfl
 | [],_::_,h=>h.elim
 | _::_,[],h=>h.elim
 | _::_,_::_,⟨_,_,h⟩=>congrArg (·+1) h.length
theorem LM(nm:Str)(hs:Int)(k v:Value):∀es:List DictEntry,(putL nm hs k v es).length<=es.length+1
 | []=>Nat.le_refl _
 | e::es=>by
  unfold putL
  split
  .simp
  .have:=LM nm hs k v es;simp;exact this
variable{A:Around}{Ad:PySem.Env}{n:Nat}{Q:Value->Shared->Prop}
inductive Y8(U:Un)(X:Fx)(ρ:A9)(H:MH)(h:Heap)(i:Nat)(k:Dx)(fs:List (Nat×V))(p:Addr×Addr):Prop
 | mk (es:List DictEntry) (nd:Nat) (news:Nat->List DictEntry->List (Addr×Obj)) (N:News X.G X.L h (news nd es)) (m1:(p.1,instObj (U.cls k) p.2) ∈ news nd es) (m2:(p.2,W.dictOf es nd) ∈ news nd es) (hw:Kd U.sa ρ fs es)
  (up:∀n' es',W.Upd p.2 (W.dictOf es nd) (W.dictOf es' n') (news nd es) (news n' es')) (back:∀fs' n' es' h',Kd U.sa ρ fs' es'->Fr X.G X.L h' X.m->News X.G X.L h' (news n' es')->AL U X ρ (H.set i (.inst k fs')) h'):Y8 U X ρ H h i k fs p
theorem FS.pN(x:AL U X ρ H s.heap){i:Nat}{k:Dx}{fs:List (Nat×V)}{p:Addr×Addr}(ep:ρ[i]? =some p)(hc:H[i]? =some (.inst k fs)):Y8 U X ρ H s.heap i k fs p:=by
 obtain⟨ad,nn,pre,post,e1,⟨es,nd,rfl,hw⟩,N,D,lo,_,back⟩:=x.cell hc
 cases ep.symm.trans e1
 have e3:∀(n:Nat) (es:List DictEntry),pre++[(p.1,instObj (U.cls k) p.2),(p.2,W.dictOf es n)]++post=(pre++[(p.1,instObj (U.cls k) p.2)])++(p.2,W.dictOf es n)::post:=fun n es=>by simp
 refine⟨es,nd,fun n es=>pre++[(p.1,instObj (U.cls k) p.2),(p.2,W.dictOf es n)]++post,N,B0 _ (Da _ (.head _)),B0 _ (Da _ (.tail _ (.head _))),hw,fun n' es'=> ?_,fun fs' n' es' h' w F N'=>back _ _ h' F N' rfl ⟨_,_,rfl,w⟩⟩
 rw[e3,e3]
 rw[e3]at D
 exact ND D
theorem LZ(uf:UF U)(cx:Cx U A X Ad n)(x:AL U X ρ H s.heap){o:V}{o':Value}{a:Nat}{ex:Bool}(ha:a ∈ CV)(ho:Aq U ρ o o')
  (hp:Ae (Aq U) U xc X ρ (Su o a H) Q E s):wpAny (model U.prog U.w) A (getAttr o' (wd a) ex) Q E s:=by
 refine Bx (P:=fun o=>Aq U ρ o o'->_) hp (fun i c hc hp=> ?_) ho
 refine Qw (P:=fun c=>H[i]? =some c->_) hp (?_:_) hc
 refine fun k fs hp hc ho=>Fd hp fun v hl hp=> ?_
 refine VR.refE (P:=fun y=>wpAny _ _ (getAttr y _ _) _ _ _) ho fun p ep=> ?_
 obtain⟨es,nd,news,N,m1,m2,hw,_,_⟩:=x.pN ep hc
 obtain⟨y,g,hy⟩:=hw.get hl
 have ao:=uf.attr k a ha
 obtain⟨attr,ao3,ao4⟩:=ao.find
 exact get_own x.fr cx.gf.K (W.InstAt.of_news N m1 m2) ao.plain (uf.dict k) ao3 ao4 g hy.handed (hp ρ y s.heap _ (BF _) x hy)
theorem L5(uf:UF U)(cx:Cx U A X Ad n)(x:AL U X ρ H s.heap){o v:V}{o' v':Value}{a:Nat}(ha:a ∈ CV)(ho:Aq U ρ o o')(hv:Aq U ρ v v'){Q:Unit->Shared->Prop}
  (hp:Ae (fun J J J=>True) U xc X ρ (Iu o a v H) Q E s):wpAny (model U.prog U.w) A (setAttr o' (wd a) v') Q E s:=by
 refine Fz (P:=fun o=>Aq U ρ o o'->_) hp (fun i c hc hp=> ?_) ho
 refine Qw (P:=fun c=>H[i]? =some c->_) hp (?_:_) hc
 refine fun k fs hp hc ho=>CA hp fun Ba hp=> ?_
 refine VR.refE (P:=fun y=>wpAny _ _ (setAttr y _ _) _ _ _) ho fun p ep=> ?_
 obtain⟨es,nd,news,N,m1,m2,hw,up,back⟩:=x.pN ep hc
 refine set_dict x.fr cx.gf.K N (W.InstAt.of_news N m1 m2) rfl (uf.seta k) (uf.over k) (uf.attr k a ha).taker (uf.dict k) hw.some rfl (up _ _) ?_ fun h' F' N'=>hp ρ () h' _ (BF _) (back _ _ _ h' (hw.put hv) F' N') trivial
 have h1:=LM (wd a) (PyData.keyHash U.w.params (wd a)) (.str (wd a) (s.toks+1)) v' es
 have h2:=hw.length
 clear up back hp N
 exact Nat.le_of_lt (qY ‹_› h2 (Nat.le_of_lt ‹_›) (by rfl))
end
theorem C3.length{sa:Addr}{ρ:A9}:∀{vs:List V} {xs:List Value},C3 sa ρ vs xs->xs.length=vs.length
 | [],[],_=>rfl
 | _::_,_::_,⟨_,h⟩=>congrArg (·+1) h.length
 | [],_::_,h=>h.elim
 | _::_,[],h=>h.elim
theorem C3.get{sa:Addr}{ρ:A9}:∀{vs:List V} {xs:List Value} {k:Nat} {v:V},C3 sa ρ vs xs->vs[k]? =some v->∃x,xs[k]? =some x/\VR sa ρ v x
 | [],[],_,_,_,e=>by simp at e
 | v::_,x::_,0,_,⟨a,_⟩,e=>by simp at e;subst e;exact⟨x,rfl,a⟩
 | _::_,_::_,k+1,_,⟨_,b⟩,e=>by rw[List.getElem?_cons_succ]at e;rw[List.getElem?_cons_succ];exact b.get e
 | [],_::_,_,_,h,_=>h.elim
 | _::_,[],_,_,h,_=>h.elim
theorem C3.append{sa:Addr}{ρ:A9}{ws:List V}{ys:List Value}:∀{vs:List V} {xs:List Value},C3 sa ρ vs xs->C3 sa ρ ws ys->C3 sa ρ (vs++ws) (xs++ys)
 | [],[],_,q=>q
 | _::_,_::_,⟨a,h⟩,q=>⟨a,C3.append h q⟩
 | [],_::_,h,_=>h.elim
 | _::_,[],h,_=>h.elim
theorem C3.one{sa:Addr}{ρ:A9}{v:V}{x:Value}(h:VR sa ρ v x):C3 sa ρ [v] [x]:=⟨h,trivial⟩
theorem C3.reverse{sa:Addr}{ρ:A9}:∀{vs:List V} {xs:List Value},C3 sa ρ vs xs->C3 sa ρ vs.reverse xs.reverse
 | [],[],_=>trivial
 | _::_,_::_,⟨a,h⟩=>by rw[List.reverse_cons,List.reverse_cons];exact h.reverse.append (.one a)
 | [],_::_,h=>h.elim
 | _::_,[],h=>h.elim
theorem C3.take{sa:Addr}{ρ:A9}:∀{vs:List V} {xs:List Value} (k:Nat),C3 sa ρ vs xs->C3 sa ρ (vs.take k) (xs.take k)
 | _,_,0,_=>trivial
 | [],[],_+1,_=>trivial
 | _::_,_::_,k+1,⟨a,h⟩=>⟨a,h.take k⟩
 | [],_::_,_,h=>h.elim
 | _::_,[],_,h=>h.elim
theorem C3.drop{sa:Addr}{ρ:A9}:∀{vs:List V} {xs:List Value} (k:Nat),C3 sa ρ vs xs->C3 sa ρ (vs.drop k) (xs.drop k)
 | _,_,0,h=>h
 | [],[],_+1,_=>trivial
 | _::_,_::_,k+1,⟨_,h⟩=>h.drop k
 | [],_::_,_,h=>h.elim
 | _::_,[],_,h=>h.elim
theorem C3.set{sa:Addr}{ρ:A9}{v:V}{x:Value}(q:VR sa ρ v x):∀{vs:List V} {xs:List Value} (k:Nat),C3 sa ρ vs xs->C3 sa ρ (vs.set k v) (xs.set k x)
 | [],[],_,_=>trivial
 | _::_,_::_,0,⟨_,h⟩=>⟨q,h⟩
 | _::_,_::_,k+1,⟨a,h⟩=>⟨a,h.set q k⟩
 | [],_::_,_,h=>h.elim
 | _::_,[],_,h=>h.elim
theorem C3.replicate{sa:Addr}{ρ:A9}{v:V}{x:Value}(q:VR sa ρ v x):∀k:Nat,C3 sa ρ (List.replicate k v) (List.replicate k x)
 | 0=>trivial
 | k+1=>⟨q,C3.replicate q k⟩
theorem C3.dropLast{sa:Addr}{ρ:A9}:∀{vs:List V} {xs:List Value},C3 sa ρ vs xs->C3 sa ρ vs.dropLast xs.dropLast
 | [],[],_=>trivial
 | [_],[_],_=>trivial
 | v::w::vs,x::y::xs,⟨a,h⟩=>by rw[List.dropLast_cons_cons,List.dropLast_cons_cons];exact⟨a,h.dropLast⟩
 | [_],_::_::_,h=>h.2.elim
 | _::_::_,[_],h=>h.2.elim
 | [],_::_,h=>h.elim
 | _::_,[],h=>h.elim
theorem F5.look{sa:Addr}{ρ:A9}{k:Nat}:∀{kvs:List (Nat×V)} {es:List (Str×Value)},F5 sa ρ kvs es->(Dr k kvs=none->valueAt es (wd k)=none)/\∀v,Dr k kvs=some v->∃x,valueAt es (wd k)=some x/\VR sa ρ v x
 | [],[],_=>⟨fun J=>rfl,fun J e=>by cases e⟩
 | [],_::_,h=>h.elim
 | _::_,[],h=>h.elim
 | p::r,e::es,⟨h1,h2,h3⟩=>by
  have ih:=h3.look (k:=k)
  unfold Dr
  have hv:valueAt (e::es) (wd k)=if wd p.1=wd k then some e.2 else valueAt es (wd k):=by
   obtain⟨ek,ev⟩:=e
   dsimp only at h1
   subst h1
   show(List.find? _ _).map _=_
   rw[List.find?_cons]
   by_cases q:wd p.1=wd k
   .simp [q]
   .simp [q,valueAt]
  rw[hv]
  by_cases q:p.1=k
  .subst q
   simp only [if_true]
   exact⟨fun e=>by(cases e),fun v e=>by cases e;exact⟨_,rfl,h2⟩⟩
  .have q':¬wd p.1=wd k:=fun e=>q (Np e)
   rw[if_neg q,if_neg q']
   exact ih
section
variable{A:Around}{s:Shared}
theorem Yd{a:Addr}(h:(a==sysModules)=false):decide ((a==sysModules)=true)=false:=by rw[h];rfl
theorem EL{prog:Program}{w:World}{E:Value->Shared->Prop}{Q:Unit->Shared->Prop}{a:Addr}(h:(a==sysModules)=false)(k:Q () s):wpAny (model prog w) A (Builtin.Dict.showsAll a) Q E s:=
 wpAny_ite_false (Yd h) (BE k)
theorem JD{prog:Program}{w:World}{E:Value->Shared->Prop}{Q:Bool->Shared->Prop}{nm:String}{a b:Addr}{oa ob:Obj}{ea eb:Nat}(la:(a==sysModules)=false)(lb:(b==sysModules)=false)
  (ha:s.heap.get? a=some oa) (hb:s.heap.get? b=some ob) (da:oa.data=.dict #[] ea) (db:ob.data=.dict #[] eb) (h:Q true s):
  wpAny (model prog w) A (Builtin.Dict.samePairs nm a b) Q E s:=by
 refine As (EL la (As (EL lb (As (wpAny_dictEntries ha da (As (wpAny_dictEntries hb db (wpAny_ite_false rfl (As (wpAny_dictEpoch ha da (As ?_)))))))))))
 rw[Std.Legacy.Range.forIn_eq_forIn_range']
 exact BE (BE h)
theorem T2{prog:Program}{w:World}{E:Value->Shared->Prop}{β:Type}{Q:β->Shared->Prop}{f:Nat->β->Sem (ForInStep β)}{b:β}{k:β}(h:wpAny (model prog w) A (f 0 b) (fun r s=>r=.yield k/\Q k s) E s):wpAny (model prog w) A (forIn [:1] b f) Q E s:=by
 rw[Std.Legacy.Range.forIn_eq_forIn_range']
 show wpAny _ _ (forIn [0] _ _) _ _ _
 rw[List.forIn_cons]
 refine As (wpAny_mono h (fun r s h=> ?_) fun J J h=>h)
 cases h.1
 exact BE h.2
theorem NY{prog:Program}{w:World}{E:Value->Shared->Prop}{Q:Bool->Shared->Prop}{b:Addr}{ob:Obj}{eb:Nat}{x y:DictEntry}{k:Str}{t u:Tok}
  (hb:s.heap.get? b=some ob) (db:ob.data=.dict #[y] eb) (hx:x.key=.str k t) (hy:y.key=.str k u) (he:EqAt A s x.val y.val true) (h:Q true s):
  wpAny (model prog w) A (holding [x.key,x.val] do
   let some j <-dictFind b x.key x.hash | pure false
   let some f:=(<-dictEntries b)[j]? | unsupported "internal:dict-equal"
   holding [f.val] (eqBool x.val f.val)) Q E s:=by
 rw[hx]
 refine wpAny_holding (As (PyProof.Rows.KTD.kt_dictFind_strs hb db (by simp[hy,isExactStrKey]) ?_))
 rw[show(#[y].findIdx? fun e=>e.key.isStr k)=some 0 by simp[hy,Value.isStr]]
 exact As (wpAny_dictEntries hb db (wpAny_holding (he prog w _ _ h)))
theorem Jx{prog:Program}{w:World}{E:Value->Shared->Prop}{Q:Bool->Shared->Prop}{nm:String}{a b:Addr}{oa ob:Obj}{ea eb:Nat}{x y:DictEntry}{k:Str}{t u:Tok}(la:(a==sysModules)=false)(lb:(b==sysModules)=false)
  (ha:s.heap.get? a=some oa) (hb:s.heap.get? b=some ob) (da:oa.data=.dict #[x] ea) (db:ob.data=.dict #[y] eb) (hx:x.key=.str k t) (hy:y.key=.str k u) (he:EqAt A s x.val y.val true) (h:Q true s):
  wpAny (model prog w) A (Builtin.Dict.samePairs nm a b) Q E s:=by
 refine As (EL la (As (EL lb (As (wpAny_dictEntries ha da (As (wpAny_dictEntries hb db (wpAny_ite_false rfl (As (wpAny_dictEpoch ha da (As (T2 (k:=(none,())) (As (wpAny_dictEntries ha da ?_))))))))))))))
 show wpAny _ _ (holding [x.key,x.val] _ >>= _) _ _ _
 refine As (NY hb db hx hy he (wpAny_ite_false rfl (As (wpAny_dictEpoch ha da (wpAny_ite_false ?_ (BE ⟨rfl,BE h⟩))))))
 exact decide_eq_false fun e=>by rw[bne_self_eq_false]at e;exact Bool.false_ne_true e
theorem Pb{a b:Addr}{oa ob:Obj}(ha:s.heap.get? a=some oa)(hb:s.heap.get? b=some ob)(ca:oa.cls=.type "dict")(cb:ob.cls=.type "dict")(hu:A.units < cLine)
  (hp:∀(prog:Program) (w:World) (E:Value->Shared->Prop) (Q:Bool->Shared->Prop) (nm:String),Q true s->wpAny (model prog w) A.in1 (Builtin.Dict.samePairs nm a b) Q E s):
  RcAt A s (.ref a) (.ref b) true/\RcNeAt A s (.ref a) (.ref b) false:=by
 have ta:s.TypeIs (.ref a) "dict":=⟨oa,ha,ca⟩
 have tb:s.TypeIs (.ref b) "dict":=⟨ob,hb,cb⟩
 constructor
 .intro prog w E Q h
  refine wpAny_richCompare_same_room (op:= .Eq) ta tb PySem.F.slot_dict_eq (wpAny_call_entry PySem.F.slot_dict_eq ta PySem.F.entry_dict_eq ?_ (PySem.F.args_dict_eq_2 _ _)) hu
  show wpAny _ _ (Builtin.Dict.dictSlotArgs "__eq__" ⟨[.ref a,.ref b],[]⟩ >>= _) _ _ s
  refine As ?_
  unfold Builtin.Dict.dictSlotArgs
  refine As (wpAny_notOrdered_dict ta ?_)
  show wpAny _ _ (pure (Value.ref a,Value.ref b)) _ _ s
  refine BE ?_
  refine As (wpAny_isInstance (T:="dict") tb PySem.F.sub_dict_dict ?_)
  simp only [Bool.not_true,Bool.false_eq_true,if_false]
  refine As (BE (As (BE ?_)))
  refine As (hp prog w _ _ _ ?_)
  refine BE ⟨_,rfl,?_,?_⟩
  .exact fun x=>nomatch x
  .simpa using h
 .intro prog w E Q h
  refine wpAny_richCompare_same_room (op:= .NotEq) ta tb PySem.F.slot_dict_ne (wpAny_call_entry PySem.F.slot_dict_ne ta PySem.F.entry_dict_ne ?_ (PySem.F.args_dict_ne_2 _ _)) hu
  show wpAny _ _ (Builtin.Dict.dictSlotArgs "__ne__" ⟨[.ref a,.ref b],[]⟩ >>= _) _ _ s
  refine As ?_
  unfold Builtin.Dict.dictSlotArgs
  refine As (wpAny_notOrdered_dict ta ?_)
  show wpAny _ _ (pure (Value.ref a,Value.ref b)) _ _ s
  refine BE ?_
  refine As (wpAny_isInstance (T:="dict") tb PySem.F.sub_dict_dict ?_)
  simp only [Bool.not_true,Bool.false_eq_true,if_false]
  refine As (BE (As (BE ?_)))
  refine As (hp prog w _ _ _ ?_)
  refine BE ⟨_,rfl,?_,?_⟩
  .exact fun x=>nomatch x
  .simpa using h
end
section
variable{U:Un}{X:Fx}{ρ:A9}{H:MH}{s:Shared}
theorem L8(p:Addr×Obj)(pre post:List (Addr×Obj)):p ∈ pre++[p]++post:=B0 _ (Da _ (.head _))
noncomputable def At(U:Un)(ρ:A9)(c:Af)(h:Heap)(a:Addr):Prop:=match c with
 | .list xs=>∃vs,h.IsList a (List.toArray vs)/\C3 U.sa ρ xs vs
 | .tup xs=>∃vs,h.IsTuple a (List.toArray vs)/\C3 U.sa ρ xs vs
 | .dictW kvs=>∃o es,h.get? a=some o/\o.IsDictOf (PySem.strKind U.prog U.w) es/\F5 U.sa ρ kvs es
 | .dictP kvs=>∃o es,h.get? a=some o/\o.IsDictOf (PySem.strKind U.prog U.w) es/\F5 U.sa ρ kvs es/\U.pin a=some o
 | _=>True
inductive FS.atI(U:Un)(ρ:A9)(s:Shared)(i:Nat)(c:Af):Prop
 | mk (a:_) (q0:ρ[i]? =some a) (q1:3 < a.1) (q2:At U ρ c s.heap a.1):FS.atI U ρ s i c
theorem FS.at(x:AL U X ρ H s.heap){i:Nat}{c:Af}(e:H[i]? =some c):FS.atI U ρ s i c:=by
 obtain⟨a,n,pre,post,e1,y,N,D,lo,_⟩:=x.cell e
 refine⟨a,e1,?_,?_⟩
 .cases c with
  | list xs=>obtain⟨vs,k,rfl,_⟩:=y;exact lo _ (.head _)
  | tup xs=>obtain⟨vs,rfl,_⟩:=y;exact lo _ (.head _)
  | dictW xs=>obtain⟨vs,k,rfl,_⟩:=y;exact lo _ (.head _)
  | dictP xs=>obtain⟨vs,k,rfl,_⟩:=y;exact lo _ (.head _)
  | dictI xs=>obtain⟨vs,k,rfl,_⟩:=y;exact lo _ (.head _)
  | inst k xs=>obtain⟨vs,k,rfl,_⟩:=y;exact lo _ (.head _)
  | tab=>obtain⟨vs,k,rfl,_⟩:=y;exact lo _ (.head _)
 .cases c with
  | list xs=>obtain⟨vs,k,rfl,v⟩:=y;exact⟨vs,⟨_,N.get (L8 _ _ _),rfl,k,rfl⟩,v⟩
  | tup xs=>obtain⟨vs,rfl,v⟩:=y;exact⟨vs,⟨_,N.get (L8 _ _ _),rfl,0,rfl⟩,v⟩
  | dictW xs=>obtain⟨o,es,rfl,d,v⟩:=y;exact⟨o,es,N.get (by simp),d,v⟩
  | dictP xs=>obtain⟨o,es,rfl,d,v⟩:=y;exact⟨o,es,N.get (by simp),d,v⟩
  | _=>trivial
inductive bC(sa:Addr)(ρ:A9)(h:Heap)(xs:List V)(a:Addr):Prop
 | mk (vs:List Value) (il:h.IsList a (List.toArray vs)) (vv:C3 sa ρ xs vs) (lo:3 < a):bC sa ρ h xs a
inductive bM(sa:Addr)(ρ:A9)(h:Heap)(xs:List V)(a:Addr):Prop
 | mk (vs:List Value) (il:h.IsTuple a (List.toArray vs)) (vv:C3 sa ρ xs vs) (lo:3 < a):bM sa ρ h xs a
inductive YN(U:Un)(ρ:A9)(h:Heap)(kvs:List (Nat×V))(a:Addr):Prop
 | mk (o:Obj) (es:List (Str×Value)) (ho:h.get? a=some o) (hd:o.IsDictOf (PySem.strKind U.prog U.w) es) (vv:F5 U.sa ρ kvs es) (lo:3 < a):YN U ρ h kvs a
section
variable{i:Nat}{p:Addr×Addr}
theorem FS.pt{c:Af}(x:AL U X ρ H s.heap)(ep:ρ[i]? =some p)(hc:H[i]? =some c):3 < p.1/\At U ρ c s.heap p.1:=by
 obtain⟨a,e1,lo,y⟩:=x.at hc
 cases ep.symm.trans e1
 exact⟨lo,y⟩
theorem FS.pL{xs:List V}(x:AL U X ρ H s.heap)(ep:ρ[i]? =some p)(hc:H[i]? =some (.list xs)):bC U.sa ρ s.heap xs p.1:=(x.pt ep hc).elim fun lo y=>y.elim fun vs y=>⟨vs,y.1,y.2,lo⟩
theorem FS.pT{xs:List V}(x:AL U X ρ H s.heap)(ep:ρ[i]? =some p)(hc:H[i]? =some (.tup xs)):bM U.sa ρ s.heap xs p.1:=(x.pt ep hc).elim fun lo y=>y.elim fun vs y=>⟨vs,y.1,y.2,lo⟩
theorem FS.pD{kvs:List (Nat×V)}(x:AL U X ρ H s.heap)(ep:ρ[i]? =some p)(hc:H[i]? =some (.dictW kvs)):YN U ρ s.heap kvs p.1:=(x.pt ep hc).elim fun lo y=>y.elim fun o y=>y.elim fun es y=>⟨o,es,y.1,y.2.1,y.2.2,lo⟩
theorem FS.pP{kvs:List (Nat×V)}(x:AL U X ρ H s.heap)(ep:ρ[i]? =some p)(hc:H[i]? =some (.dictP kvs)):YN U ρ s.heap kvs p.1:=(x.pt ep hc).elim fun lo y=>y.elim fun o y=>y.elim fun es y=>⟨o,es,y.1,y.2.1,y.2.2.1,lo⟩
end
theorem Dw{a:Addr}(h:3 < a):(a==sysModules)=false:=beq_eq_false_iff_ne.mpr (fun e=>by subst e;exact absurd h (by decide))
theorem LY(n:Nat):(List.range n).all (fun J=>true)=true:=by simp
noncomputable def HS(A:Around)(s:Shared)(a b:Value):Prop:=EqAt A s a b true/\RcAt A s a b true/\RcNeAt A s a b false
theorem Kg{A:Around}{a b:Addr}{t:Bool}(h:RcAt A s (.ref a) (.ref b) t)(hs:a=b->t=true):EqAt A s (.ref a) (.ref b) t:=by
 by_cases e:a=b
 .rw [hs e];subst e;exact .same _
 .exact .of_refs e h
theorem PF{A:Around}{a b:Addr}(h:RcAt A s (.ref a) (.ref b) true/\RcNeAt A s (.ref a) (.ref b) false):HS A s (.ref a) (.ref b):=⟨Kg h.1 fun J=>rfl,h⟩
theorem P0{A:Around}(i:Bool):HS A s (.bool i) (.bool i):=by
 have e1:=EqAt.bool_bool (A:=A) (s:=s) i i
 have e2:=RcAt.bool_bool (A:=A) (s:=s) i i
 have e3:=RcNeAt.bool_bool (A:=A) (s:=s) i i
 rw[beq_self_eq_true]at e1 e2 e3
 exact⟨e1,e2,e3⟩
theorem Rd{A:Around}(i:Int)(t u:Tok):HS A s (.int i t) (.int i u):=by
 have e1:=EqAt.int_int (A:=A) (s:=s) i t i u
 have e2:=RcAt.int_int (A:=A) (s:=s) i t i u
 have e3:=RcNeAt.int_int (A:=A) (s:=s) i t i u
 rw[beq_self_eq_true]at e1 e2 e3
 exact⟨e1,e2,e3⟩
theorem IS{A:Around}(i:Str)(t u:Tok):HS A s (.str i t) (.str i u):=by
 have e1:=EqAt.str_str (A:=A) (s:=s) i t i u
 have e2:=RcAt.str_str (A:=A) (s:=s) i t i u
 have e3:=RcNeAt.str_str (A:=A) (s:=s) i t i u
 rw[beq_self_eq_true]at e1 e2 e3
 exact⟨e1,e2,e3⟩
theorem It{U:Un}{o:Obj}{es:List (Str×Value)}(h:o.IsDictOf (PySem.strKind U.prog U.w) es)(e:es=[]):o.cls=.type "dict"/\∃ep,o.data=.dict #[] ep:=by
 obtain⟨xs,ep,ex,d,_,p,_⟩:=h
 subst e
 have:xs.toList=[]:=by cases q:xs.toList with | nil=>rfl | cons _ _=>rw[q]at p;cases p
 have:xs=#[]:=Array.ext' this
 subst this
 exact⟨ex.1,ep,d⟩
inductive Hy(o:Obj)(k:Str)(v:Value):Prop
 | mk (ep:_) (x:_) (t:_) (q0:o.data=.dict #[x] ep) (q1:x.key=.str k t) (q2:x.val=v):Hy o k v
theorem I4{U:Un}{o:Obj}{k:Str}{v:Value}(h:o.IsDictOf (PySem.strKind U.prog U.w) [(k,v)]):o.cls=.type "dict"/\Hy o k v:=by
 obtain⟨xs,ep,ex,d,_,p,_⟩:=h
 obtain⟨l⟩:=xs
 have p':Pairs (PySem.strKind U.prog U.w) l [(k,v)]:=p
 cases p' with
 | cons hk hv hr=>
  cases hr
  obtain⟨t,ht⟩:=Value.isStrOf_shape hk
  exact⟨ex.1,ep,_,t,d,ht,hv⟩
theorem AK{P:Prop}(h:false=true):P:=nomatch h
theorem dN{v:V}{k:Bool->Bool}{P:V->Prop}(h:vB v false k=true)(f:∀i,k i=true->P (.bool i)):P v:=
 @V.casesOn (fun v=>vB v false k=true->P v) v AK f (fun J=>AK) (fun J=>AK) (fun J=>AK) (fun J=>AK) AK h
theorem eR{v:V}{k:Int->Bool}{P:V->Prop}(h:vI v false k=true)(f:∀i,k i=true->P (.int i)):P v:=
 @V.casesOn (fun v=>vI v false k=true->P v) v AK (fun J=>AK) f (fun J=>AK) (fun J=>AK) (fun J=>AK) AK h
theorem eN{v:V}{k:Nat->Bool}{P:V->Prop}(h:vW v false k=true)(f:∀i,k i=true->P (.w i)):P v:=
 @V.casesOn (fun v=>vW v false k=true->P v) v AK (fun J=>AK) (fun J=>AK) f (fun J=>AK) (fun J=>AK) AK h
theorem cJ{v:V}{k:Nat->Bool}{P:V->Prop}(h:vR v false k=true)(f:∀i,k i=true->P (.ref i)):P v:=
 @V.casesOn (fun v=>vR v false k=true->P v) v AK (fun J=>AK) (fun J=>AK) (fun J=>AK) (fun J=>AK) f AK h
theorem cI{c:Af}{k:List V->Bool}{P:Af->Prop}(h:cL c false k=true)(f:∀i,k i=true->P (.list i)):P c:=
 @Af.casesOn (fun c=>cL c false k=true->P c) c f (fun J=>AK) (fun J=>AK) (fun J=>AK) (fun J=>AK) (fun J J=>AK) AK h
theorem dB{c:Af}{k:List V->Bool}{P:Af->Prop}(h:cT c false k=true)(f:∀i,k i=true->P (.tup i)):P c:=
 @Af.casesOn (fun c=>cT c false k=true->P c) c (fun J=>AK) f (fun J=>AK) (fun J=>AK) (fun J=>AK) (fun J J=>AK) AK h
theorem cF{c:Af}{k:List (Nat×V)->Bool}{P:Af->Prop}(h:cD c false k=true)(f:∀i,k i=true->P (.dictW i)):P c:=
 @Af.casesOn (fun c=>cD c false k=true->P c) c (fun J=>AK) (fun J=>AK) f (fun J=>AK) (fun J=>AK) (fun J J=>AK) AK h
theorem WU{o:Option Af}{k:Af->Bool}{P:Prop}(h:oC o k=true)(f:∀c,o=some c->k c=true->P):P:=by
 cases o with
 | none=>exact AK h
 | some c=>exact f c rfl h
noncomputable def DS(U:Un)(ρ:A9)(s:Shared)(H:MH)(n:Nat):Prop:=∀(a b:V) (a' b':Value) (A:Around),Kb n H a b=true->VR U.sa ρ a a'->VR U.sa ρ b b'->A.units+n < cLine->HS A s a' b'
noncomputable def WS(U:Un)(ρ:A9)(s:Shared)(H:MH)(n:Nat):Prop:=∀(as bs:List V) (as' bs':List Value) (A:Around),JI n H as bs=true->C3 U.sa ρ as as'->C3 U.sa ρ bs bs'->A.units+n < cLine->as'.length=bs'.length/\∀j (h1:j < as'.length) (h2:j < bs'.length),EqAt A s as'[j] bs'[j] true
section
variable{n:Nat}{A:Around}
theorem EU(h:A.units+(n+1) < cLine):A.in1.units+n < cLine/\A.units < cLine:=⟨by show A.units+1+n < _;exact qP ‹_›,by exact qR ‹_›⟩
theorem Tv{xs ys:List V}{a b:Addr}(ds:WS U ρ s H n)(aa:bC U.sa ρ s.heap xs a)(ab:bC U.sa ρ s.heap ys b)(h:JI n H xs ys=true)(hu:A.units+(n+1) < cLine):RcAt A s (.ref a) (.ref b) true/\RcNeAt A s (.ref a) (.ref b) false:=by
 obtain⟨vs,il,vv,_⟩:=aa
 obtain⟨us,jl,uv,_⟩:=ab
 have d:=ds xs ys vs us A.in1 h vv uv (EU hu).1
 have r1:=RcAt.lists (e:=fun J=>true) (A:=A) il jl d.1 (EU hu).2 d.2
 have r2:=RcNeAt.lists (e:=fun J=>true) (A:=A) il jl d.1 (EU hu).2 d.2
 rw[LY]at r1 r2
 exact⟨r1,r2⟩
theorem VK{xs ys:List V}{a b:Addr}(ds:WS U ρ s H n)(aa:bM U.sa ρ s.heap xs a)(ab:bM U.sa ρ s.heap ys b)(h:JI n H xs ys=true)(hu:A.units+(n+1) < cLine):RcAt A s (.ref a) (.ref b) true/\RcNeAt A s (.ref a) (.ref b) false:=by
 obtain⟨vs,il,vv,_⟩:=aa
 obtain⟨us,jl,uv,_⟩:=ab
 have d:=ds xs ys vs us A.in1 h vv uv (EU hu).1
 have r1:=RcAt.tuples (e:=fun J=>true) (A:=A) il jl (EU hu).2 d.2
 have r2:=RcNeAt.tuples (e:=fun J=>true) (A:=A) il jl (EU hu).2 d.2
 have e:(vs.toArray.size==us.toArray.size)=true:=beq_iff_eq.mpr d.1
 rw[LY,e]at r1 r2
 exact⟨r1,r2⟩
theorem F5.nil{sa:Addr}{es:List (Str×Value)}(h:F5 sa ρ [] es):es=[]:=by cases es with | nil=>rfl | cons _ _=>exact h.elim
theorem F5.one{sa:Addr}{es:List (Str×Value)}{p:Nat×V}(h:F5 sa ρ [p] es):∃y,es=[(wd p.1,y)]/\VR sa ρ p.2 y:=by
 cases es with
 | nil=>exact h.elim
 | cons e r=>
  cases r with
  | cons _ _=>exact h.2.2.elim
  | nil=>exact⟨e.2,by rw[<-h.1],h.2.1⟩
theorem Qt{xs ys:List (Nat×V)}{a b:Addr}(ds:DS U ρ s H n)(aa:YN U ρ s.heap xs a)(ab:YN U ρ s.heap ys b)(h:YW (Kb n H) xs ys=true)(hu:A.units+(n+1) < cLine):RcAt A s (.ref a) (.ref b) true/\RcNeAt A s (.ref a) (.ref b) false:=by
 obtain⟨oa,es,ha,da,va,la⟩:=aa
 obtain⟨ob,fs,hb,db,vb,lb⟩:=ab
 cases xs with
 | nil=>
  cases ys with
  | cons _ _=>exact AK h
  | nil=>
   obtain⟨c1,ep1,d1⟩:=It da va.nil
   obtain⟨c2,ep2,d2⟩:=It db vb.nil
   exact Pb ha hb c1 c2 (EU hu).2 fun prog w E Q nm hq=>JD (Dw la) (Dw lb) ha hb d1 d2 hq
 | cons p r=>
  cases ys with
  | nil=>exact AK h
  | cons q t=>
   have h:(r.isEmpty&&t.isEmpty&&(p.1==q.1&&Kb n H p.2 q.2))=true:=h
   rw[DN,DN,DN]at h
   cases List.isEmpty_iff.mp h.1.1
   cases List.isEmpty_iff.mp h.1.2
   obtain⟨y,e1,f2⟩:=va.one
   obtain⟨y',e2,g2⟩:=vb.one
   cases e1
   cases e2
   obtain⟨c1,ep1,z,t,d1,k1,w1⟩:=I4 da
   obtain⟨c2,ep2,z',t',d2,k2,w2⟩:=I4 db
   have sm:=(ds _ _ y y' A.in1 h.2.2 f2 g2 (EU hu).1).1
   rw[<-w1,<-w2]at sm
   rw[eq_of_beq h.2.1]at k1
   exact Pb ha hb c1 c2 (EU hu).2 fun prog w E Q nm hq=>Jx (Dw la) (Dw lb) ha hb d1 d2 k1 k2 sm hq
theorem OF(x:AL U X ρ H s.heap)(ds:DS U ρ s H n)(dss:WS U ρ s H n){i j:Nat}{p q:Addr×Addr}(h:Kb (n+1) H (.ref i) (.ref j)=true)(ea:ρ[i]? =some p)(eb:ρ[j]? =some q)(hu:A.units+(n+1) < cLine):HS A s (.ref p.1) (.ref q.1):=
 WU h fun c hi h=>WU h fun d hj h=>PF<|by
  cases c with
  | list xs=>exact cI (P:=fun d=>H[j]? =some d->_) h (fun ys h hj=>Tv dss (x.pL ea hi) (x.pL eb hj) h hu) hj
  | tup xs=>exact dB (P:=fun d=>H[j]? =some d->_) h (fun ys h hj=>VK dss (x.pT ea hi) (x.pT eb hj) h hu) hj
  | dictW xs=>exact cF (P:=fun d=>H[j]? =some d->_) h (fun ys h hj=>Qt ds (x.pD ea hi) (x.pD eb hj) h hu) hj
  | _=>exact AK h
theorem Td(x:AL U X ρ H s.heap)(ds:DS U ρ s H n)(dss:WS U ρ s H n):DS U ρ s H (n+1):=fun a b a' b' A h va vb hu=>by
 cases a with
 | none=>cases b with
  | none=>cases va;cases vb;exact⟨.same _,RcAt.none_none,RcNeAt.none_none⟩
  | _=>exact AK h
 | bool i=>exact dN (P:=fun b=>VR U.sa ρ b b'->_) h (fun j h vb=>by cases va;cases vb;rw[eq_of_beq h];exact P0 _) vb
 | int i=>exact eR (P:=fun b=>VR U.sa ρ b b'->_) h (fun j h vb=>va.intE (P:=fun y=>HS A s y _) fun t=>vb.intE (P:=fun y=>HS A s _ y) fun u=>by rw[eq_of_beq h];exact Rd _ t u) vb
 | w i=>exact eN (P:=fun b=>VR U.sa ρ b b'->_) h (fun j h vb=>va.wE (P:=fun y=>HS A s y _) fun t=>vb.wE (P:=fun y=>HS A s _ y) fun u=>by rw[eq_of_beq h];exact IS _ t u) vb
 | dec i=>cases b with
  | dec j=>
   obtain⟨t,rfl⟩:=va;obtain⟨u,rfl⟩:=vb
   rw[eq_of_beq (show(i==j)=true from h)]
   exact IS _ t u
  | _=>exact AK h
 | ref i=>exact cJ (P:=fun b=>Kb (n+1) H (.ref i) b=true->VR U.sa ρ b b'->_) h (fun j J h vb=>va.refE (P:=fun y=>HS A s y _) fun p ep=>vb.refE (P:=fun y=>HS A s _ y) fun q eq=>OF x ds dss h ep eq hu) h vb
 | ext=>exact AK h
theorem PO(ds:DS U ρ s H n)(dss:WS U ρ s H n):WS U ρ s H (n+1):=fun as bs as' bs' A h va vb hu=>by
 cases as with
 | nil=>
  cases bs with
  | cons _ _=>exact AK h
  | nil=>cases as' with
   | cons _ _=>exact va.elim
   | nil=>cases bs' with
    | nil=>exact⟨rfl,fun j h1 J=>absurd h1 (Nat.not_lt_zero _)⟩
    | cons _ _=>exact vb.elim
 | cons a r=>
  cases bs with
  | nil=>exact AK h
  | cons b q=>cases as' with
   | nil=>exact va.elim
   | cons a' r'=>cases bs' with
    | nil=>exact vb.elim
    | cons b' q'=>
     have h:=(DN _ _).mp h
     have d:=dss r q r' q' A h.2 va.2 vb.2 (by exact Nat.lt_of_succ_lt ‹_›)
     refine⟨congrArg (·+1) d.1,fun j h1 h2=> ?_⟩
     cases j with
     | zero=>exact(ds a b a' b' A h.1 va.1 vb.1 (by exact Nat.lt_of_succ_lt ‹_›)).1
     | succ j=>exact d.2 j (Nat.lt_of_succ_lt_succ h1) (Nat.lt_of_succ_lt_succ h2)
theorem Ex(x:AL U X ρ H s.heap):∀n,DS U ρ s H n/\WS U ρ s H n
 | 0=>⟨fun J J J J J h=>AK h,fun J J J J J h=>AK h⟩
 | n+1=>⟨Td x (Ex x n).1 (Ex x n).2,PO (Ex x n).1 (Ex x n).2⟩
end
end
section
variable{U:Un}{X:Fx}{ρ:A9}{H:MH}{s:Shared}{A:Around}
noncomputable def PM(A:Around)(s:Shared)(a b:Value)(t:Bool):Prop:=EqAt A s a b t/\RcAt A s a b t/\RcNeAt A s a b (!t)
theorem FJ{α:Type}{P:Prop}{t:α}(h:none=some t):P:=nomatch h
theorem EQ{b t0 t:Bool}(h:Jz b t0=some t):b=true/\t0=t:=by
 cases b with
 | false=>exact FJ h
 | true=>exact⟨rfl,Option.some.inj h⟩
theorem YG{o o2:Option Af}{t:Bool}(h:(@Option.casesOn _ (fun J=>Option Bool) o none fun c=> @Option.casesOn _ (fun J=>Option Bool) o2 none fun d=>Wf c d)=some t):∃xs ys,o=some (.list xs)/\o2=some (.list ys)/\(xs.isEmpty||ys.isEmpty)=true/\(xs.isEmpty&&ys.isEmpty)=t:=by
 cases o with
 | none=>exact FJ h
 | some c=>cases o2 with
  | none=>exact FJ h
  | some d=>cases c with
   | list xs=>cases d with
    | list ys=>exact⟨xs,ys,rfl,rfl,EQ h⟩
    | _=>exact FJ h
   | _=>exact FJ h
theorem LD(x:AL U X ρ H s.heap){i j:Nat}{p q:Addr×Addr}{xs ys:List V}(ep:ρ[i]? =some p)(eq:ρ[j]? =some q)(hi:H[i]? =some (.list xs))(hj:H[j]? =some (.list ys))(hl:xs.length≠ys.length)(hu:A.units < cLine):PM A s (.ref p.1) (.ref q.1) false:=by
 have ne:i≠j:=fun e=>by rw[e,hj]at hi;cases hi;exact hl rfl
 obtain⟨vs,il,vv,_⟩:=x.pL ep hi
 obtain⟨us,jl,uv,_⟩:=x.pL eq hj
 have hz:vs.toArray.size≠us.toArray.size:=fun e=>hl (vv.length.symm.trans (e.trans uv.length))
 have JK:(vs.toArray.size != us.toArray.size)=true:=bne_iff_ne.mpr hz
 have r1:=RcAt.lists_lengths (A:=A) il jl JK hu
 refine⟨Kg r1 fun e=> ?_,r1,RcNeAt.lists_lengths (A:=A) il jl JK hu⟩
 exfalso
 rw[e]at il
 obtain⟨o,ho,_,n,hd⟩:=il
 obtain⟨o',ho',_,n',hd'⟩:=jl
 cases ho.symm.trans ho'
 cases hd.symm.trans hd'
 exact hz rfl
theorem OU(x:AL U X ρ H s.heap){a b:V}{a' b':Value}{t:Bool}(h:Tb H a b=some t)(va:VR U.sa ρ a a')(vb:VR U.sa ρ b b')(hu:A.units+70 < cLine):PM A s a' b' t:=by
 have hu0:A.units < cLine:=by exact qR ‹_›
 cases a with
 | none=>cases va;cases b with
  | none=>cases vb;cases h;exact⟨.same _,RcAt.none_none,RcNeAt.none_none⟩
  | w j=>cases h;exact vb.wE (P:=fun y=>PM A s _ y _) fun u=>⟨EqAt.none_str _ u,RcAt.none_str _ u,RcNeAt.none_str _ u⟩
  | _=>exact FJ h
 | bool=>exact FJ h
 | int i=>refine va.intE (P:=fun y=>PM A s y _ _) fun v=> ?_;cases b with
  | int j=>cases h;exact vb.intE (P:=fun y=>PM A s _ y _) fun u=>⟨EqAt.int_int _ v _ u,RcAt.int_int _ v _ u,RcNeAt.int_int _ v _ u⟩
  | w j=>cases h;exact vb.wE (P:=fun y=>PM A s _ y _) fun u=>⟨EqAt.int_str _ v _ u,RcAt.int_str _ v _ u,RcNeAt.int_str _ v _ u⟩
  | _=>exact FJ h
 | w i=>refine va.wE (P:=fun y=>PM A s y _ _) fun v=> ?_;cases b with
  | none=>cases vb;cases h;exact⟨EqAt.str_none _ v,RcAt.str_none _ v,RcNeAt.str_none _ v⟩
  | int j=>cases h;exact vb.intE (P:=fun y=>PM A s _ y _) fun u=>⟨EqAt.str_int _ v _ u,RcAt.str_int _ v _ u,RcNeAt.str_int _ v _ u⟩
  | w j=>
   cases h
   rw[<-OA]
   exact vb.wE (P:=fun y=>PM A s _ y _) fun u=>⟨EqAt.str_str _ v _ u,RcAt.str_str _ v _ u,RcNeAt.str_str _ v _ u⟩
  | _=>exact FJ h
 | dec i=>cases b with
  | dec j=>
   obtain⟨v,rfl⟩:=va;obtain⟨u,rfl⟩:=vb
   cases(EQ h).2
   rw[of_decide_eq_true (EQ h).1]
   exact IS _ v u
  | _=>exact FJ h
 | ref i=>refine va.refE (P:=fun y=>PM A s y _ _) fun p ep=> ?_;cases b with
  | w k=>
   cases(EQ h).2
   refine vb.wE (P:=fun y=>PM A s _ y _) fun u=>WU (EQ h).1 fun c hc h=> ?_
   cases c with
   | list xs=>obtain⟨vs,il,_⟩:=x.pL ep hc;exact⟨EqAt.list_str _ u il hu0,RcAt.list_str _ u il hu0,RcNeAt.list_str _ u il hu0⟩
   | tup xs=>obtain⟨vs,il,_⟩:=x.pT ep hc;exact⟨EqAt.tuple_str _ u il hu0,RcAt.tuple_str _ u il hu0,RcNeAt.tuple_str _ u il hu0⟩
   | _=>exact AK h
  | ref j=>
   refine vb.refE (P:=fun y=>PM A s _ y _) fun q eq=> ?_
   have dq:Kb IR H (.ref i) (.ref j)=true->PM A s (.ref p.1) (.ref q.1) true:=fun d=>OF x (Ex x 63).1 (Ex x 63).2 d ep eq (by show A.units+64 < _;exact dA ‹_› (by rfl))
   have h:aR (@Option.casesOn _ (fun J=>Option Bool) H[i]? none fun c=> @Option.casesOn _ (fun J=>Option Bool) H[j]? none fun d=>Wf c d) (Jz (Kb IR H (.ref i) (.ref j)) true)=some t:=h
   cases e:(@Option.casesOn _ (fun J=>Option Bool) H[i]? none fun c=> @Option.casesOn _ (fun J=>Option Bool) H[j]? none fun d=>Wf c d)with
   | none=>
    rw[e]at h
    cases(EQ h).2
    exact dq (EQ h).1
   | some t'=>
    rw[e]at h
    cases h
    obtain⟨xs,ys,hi,hj,h1,h2⟩:=YG e
    cases xs with
    | nil=>cases ys with
     | nil=>
      cases h2
      refine dq ?_
      show oC H[i]? (fun c=>oC H[j]? fun d=>Tj (JI 63 H) (Kb 63 H) c d)=true
      rw[hi,hj];rfl
     | cons=>cases h2;exact LD x ep eq hi hj (fun q=>nomatch q) hu0
    | cons=>cases ys with
     | nil=>cases h2;exact LD x ep eq hi hj (fun q=>nomatch q) hu0
     | cons=>exact AK h1
  | _=>exact FJ h
 | ext=>exact FJ h
end
noncomputable def Mr:UV->CmpOp
 | .eq=> .Eq | .ne=> .NotEq | .lt=> .Lt | .le=> .LtE | .gt=> .Gt | .ge=> .GtE | .isin=> .In | .notin=> .NotIn
section
variable{U:Un}{xc:Value}{X:Fx}{ρ:A9}{H:MH}{s:Shared}{A:Around}{E:Value->Shared->Prop}{Q:Value->Shared->Prop}{Ad:PySem.Env}{n:Nat}
noncomputable abbrev cG:A9->Bool->Value->Prop:=fun J t c=>c=.bool t
theorem AT{α β:Type}{rel:A9->α->β->Prop}{Q:β->Shared->Prop}{a:α}{b:β}{tk:Nat}(hp:Ae rel U xc X ρ (Mine.ret a H) Q E s)(x:AL U X ρ H s.heap)(r:rel ρ a b):Q b { s with toks:=tk}:=
 hp ρ b s.heap tk (BF _) x r
theorem Cz{α β:Type}{rel:A9->α->β->Prop}{Q:β->Shared->Prop}{a:α}{b:β}{tk:Nat}(hp:Ae rel U xc X ρ (R.ok a H) Q E s)(x:AL U X ρ H s.heap)(r:rel ρ a b):Q b { s with toks:=tk}:=
 hp ρ b s.heap tk (BF _) x r
theorem Mg.look{sa:Addr}{ρ:A9}{k:Int}:∀{kvs:List (Int×V)} {es:List (Int×Value)},Mg sa ρ kvs es->(Fi k kvs=none->valueAt es k=none)/\∀v,Fi k kvs=some v->∃x,valueAt es k=some x/\VR sa ρ v x
 | [],[],_=>⟨fun J=>rfl,fun J e=>by cases e⟩
 | [],_::_,h=>h.elim
 | _::_,[],h=>h.elim
 | p::r,e::es,⟨h1,h2,h3⟩=>by
  have ih:=h3.look (k:=k)
  unfold Fi
  have hv:valueAt (e::es) k=if p.1=k then some e.2 else valueAt es k:=by
   obtain⟨ek,ev⟩:=e
   dsimp only at h1
   subst h1
   show(List.find? _ _).map _=_
   rw[List.find?_cons]
   by_cases q:p.1=k
   .simp [q]
   .simp [q,valueAt]
  rw[hv]
  by_cases q:p.1=k
  .subst q
   simp only [if_true]
   exact⟨fun e=>by(cases e),fun v e=>by cases e;exact⟨_,rfl,h2⟩⟩
  .rw [if_neg q,if_neg q]
   exact ih
theorem F5.isSome{sa:Addr}{ρ:A9}{k:Nat}{kvs:List (Nat×V)}{es:List (Str×Value)}(h:F5 sa ρ kvs es):(valueAt es (wd k)).isSome=(Dr k kvs).isSome:=by
 have:=h.look (k:=k)
 cases q:Dr k kvs with
 | none=>rw[this.1 q];rfl
 | some v=>obtain⟨y,e,_⟩:=this.2 v q;rw[e];rfl
theorem Mg.isSome{sa:Addr}{ρ:A9}{k:Int}{kvs:List (Int×V)}{es:List (Int×Value)}(h:Mg sa ρ kvs es):(valueAt es k).isSome=(Fi k kvs).isSome:=by
 have:=h.look (k:=k)
 cases q:Fi k kvs with
 | none=>rw[this.1 q];rfl
 | some v=>obtain⟨y,e,_⟩:=this.2 v q;rw[e];rfl
theorem Gr{sa:Addr}{ρ:A9}{k:Nat}{t:Tok}{A:Around}{s:Shared}:∀{xs:List V} {vs:List Value},C3 sa ρ xs vs->xs.all wn=true->(∀y ∈ vs,EqAt A s y (.str (wd k) t) (isStrOf (wd k) y))/\vs.map (isStrOf (wd k))=xs.map (J9 k)
 | [],[],_,_=>⟨fun J h=>(nomatch h),rfl⟩
 | [],_::_,h,_=>h.elim
 | _::_,[],h,_=>h.elim
 | x::xs,v::vs,⟨h,hs⟩,w=>by
  rw[List.all_cons,DN]at w
  obtain⟨i1,i2⟩:=Gr hs w.2 (k:=k) (t:=t) (A:=A) (s:=s)
  have one:EqAt A s v (.str (wd k) t) (isStrOf (wd k) v)/\isStrOf (wd k) v=J9 k x:=by
   cases x with
   | w i=>
    obtain⟨u,rfl⟩:=h
    refine⟨EqAt.str_str _ u _ t,?_⟩
    show(wd i==wd k)=_
    rw[OA]
    by_cases q:i=k
    .subst q;simp[J9]
    .simp [J9,q]
   | none=>cases h;exact⟨EqAt.none_str _ t,rfl⟩
   | _=>simp[wn]at w
  refine⟨fun y hy=> ?_,by rw[List.map_cons,List.map_cons,one.2,i2]⟩
  rcases List.mem_cons.mp hy with rfl | hy
  .exact one.1
  .exact i1 y hy
theorem any_map{α:Type}(f:α->Bool)(l:List α):l.any f=(l.map f).any id:=by simp[List.any_map,Function.comp_def]
noncomputable def ZB(neg:Bool):CmpOp:=if neg then .NotIn else .In
noncomputable def Zi(neg t:Bool):Bool:=if neg then !t else t
theorem SD{items:Array Value}{a:Addr}{xs:List V}{vs:List Value}{k:Nat}{t:Tok}{neg:Bool}(il:s.heap.IsList a items\/s.heap.IsTuple a items)(e0:items=vs.toArray)(vv:C3 U.sa ρ xs vs)(hw:xs.all wn=true)(hq:Q (.bool (Zi neg (xs.any (J9 k)))) s):wpAny (model U.prog U.w) A (compareOp (ZB neg) (.str (wd k) t) (.ref a)) Q E s:=by
 subst e0
 obtain⟨i1,i2⟩:=Gr (k:=k) (t:=t) (A:=A.in1) (s:=s) vv hw
 have e:vs.toArray.any (isStrOf (wd k))=xs.any (J9 k):=by
  rw[List.any_toArray,any_map,i2,<-any_map]
 have i1:∀y ∈ vs.toArray,EqAt A.in1 s y (.str (wd k) t) (isStrOf (wd k) y):=fun y hy=>i1 y (List.mem_toArray.mp hy)
 rw[<-e]at hq
 rcases il with il | il<;>cases neg
 .exact in_listAt (isStrOf (wd k)) il i1 hq
 .exact notIn_listAt (isStrOf (wd k)) il i1 hq
 .exact in_tupleAt (isStrOf (wd k)) il i1 hq
 .exact notIn_tupleAt (isStrOf (wd k)) il i1 hq
theorem RY(x:AL U X ρ H s.heap){a b:V}{a' b':Value}(va:VR U.sa ρ a a')(vb:VR U.sa ρ b b'){neg:Bool}
  (hp:Ae cG U xc X ρ (bnd (Sz a b) (fun t=>Mine.ret (Zi neg t)) H) Q E s):wpAny (model U.prog U.w) A (compareOp (ZB neg) a' b') Q E s:=by
 refine Bx (P:=fun b=>VR U.sa ρ b b'->_) hp.as (fun i c hc hp vb=> ?_) vb
 refine vb.refE (P:=fun y=>wpAny _ _ (compareOp _ _ y) _ _ _) fun p ep=> ?_
 cases c with
 | list xs=>
  refine K3 (P:=fun a=>VR U.sa ρ a a'->_) hp (fun k hp va=>Gc hp fun hw hp=> ?_) va
  refine va.wE (P:=fun y=>wpAny _ _ (compareOp _ y _) _ _ _) fun t=> ?_
  obtain⟨vs,il,vv,_⟩:=x.pL ep hc
  exact SD (.inl il) rfl vv hw (Cz hp x rfl)
 | tup xs=>
  refine K3 (P:=fun a=>VR U.sa ρ a a'->_) hp (fun k hp va=>Gc hp fun hw hp=> ?_) va
  refine va.wE (P:=fun y=>wpAny _ _ (compareOp _ y _) _ _ _) fun t=> ?_
  obtain⟨vs,il,vv,_⟩:=x.pT ep hc
  exact SD (.inr il) rfl vv hw (Cz hp x rfl)
 | dictW kvs=>
  refine K3 (P:=fun a=>VR U.sa ρ a a'->_) hp (fun k hp va=> ?_) va
  refine va.wE (P:=fun y=>wpAny _ _ (compareOp _ y _) _ _ _) fun t=> ?_
  obtain⟨o,es,ho,hd,vv,lo⟩:=x.pD ep hc
  have hD:s.heap.DictOf (PySem.strKind U.prog U.w) p.1 es:=Heap.dictOf_iff.mpr ⟨o,ho,hd⟩
  have hq:Q (.bool (Zi neg (Dr k kvs).isSome)) { s with toks:=s.toks+1}:=Cz hp x rfl
  rw[<-vv.isSome]at hq
  cases neg
  .exact wpAny_in_of (strKind_is _ _ _ _) (Dw lo) hD.mapOf hq
  .exact wpAny_notIn_of (strKind_is _ _ _ _) (Dw lo) hD.mapOf hq
 | dictI kvs=>
  refine Xl (P:=fun a=>VR U.sa ρ a a'->_) hp (fun k hp va=> ?_) va
  refine va.intE (P:=fun y=>wpAny _ _ (compareOp _ y _) _ _ _) fun t=> ?_
  obtain⟨ad,nn,pre,post,e1,⟨o,es,rfl,hd,vv⟩,N,D,lo',_⟩:=x.cell hc
  cases ep.symm.trans e1
  have hD:s.heap.DictOf (PySem.intKind U.prog U.w) p.1 es:=Heap.dictOf_iff.mpr ⟨o,N.get (L8 _ _ _),hd⟩
  have lo:=lo' _ (.head _)
  have hq:Q (.bool (Zi neg (Fi k kvs).isSome)) { s with toks:=s.toks+1}:=Cz hp x rfl
  rw[<-vv.isSome]at hq
  cases neg
  .exact wpAny_in_of (intKind_is _ _ _ _) (Dw lo) hD.mapOf hq
  .exact wpAny_notIn_of (intKind_is _ _ _ _) (Dw lo) hD.mapOf hq
 | _=>exact hp.elim
theorem Tx(cx:Cx U A X Ad n)(x:AL U X ρ H s.heap){op:UV}{a b:V}{a' b':Value}(va:VR U.sa ρ a a')(vb:VR U.sa ρ b b')
  (hp:Ae cG U xc X ρ (S3 op a b H) Q E s):wpAny (model U.prog U.w) A (compareOp (Mr op) a' b') Q E s:=by
 have hu:A.units+70 < cLine:=by have:=cx.hu;exact dI ‹_› (by rfl)
 cases op with
 | eq=>exact Fd hp fun t h hp=>(OU (A:=A) x h va vb hu).2.1 _ _ _ _ (Cz hp x rfl)
 | ne=>exact Dk (o:=Tb H a b) hp fun t h hp=>(OU (A:=A) x h va vb hu).2.2 _ _ _ _ (Cz hp x rfl)
 | isin=>
  refine RY (xc:=xc) x va vb (neg:=false) ?_
  have:bnd (Sz a b) (fun t=>Mine.ret (Zi false t)) H=Sz a b H:=by
   unfold bnd;cases Sz a b H<;>rfl
  rw[this];exact hp
 | notin=>exact RY (xc:=xc) x va vb (neg:=true) hp
 | lt=>exact El (P:=fun a b=>VR U.sa ρ a a'->VR U.sa ρ b b'->_) hp (fun i j hp va vb=>va.intE (P:=fun y=>wpAny _ _ (compareOp _ y _) _ _ _) fun t=>vb.intE (P:=fun y=>wpAny _ _ (compareOp _ _ y) _ _ _) fun u=>wpAny_lt_int (AT hp x rfl)) va vb
 | le=>exact El (P:=fun a b=>VR U.sa ρ a a'->VR U.sa ρ b b'->_) hp (fun i j hp va vb=>va.intE (P:=fun y=>wpAny _ _ (compareOp _ y _) _ _ _) fun t=>vb.intE (P:=fun y=>wpAny _ _ (compareOp _ _ y) _ _ _) fun u=>PyProof.Rows.le_int (AT hp x rfl)) va vb
 | gt=>exact El (P:=fun a b=>VR U.sa ρ a a'->VR U.sa ρ b b'->_) hp (fun i j hp va vb=>va.intE (P:=fun y=>wpAny _ _ (compareOp _ y _) _ _ _) fun t=>vb.intE (P:=fun y=>wpAny _ _ (compareOp _ _ y) _ _ _) fun u=>PyProof.Rows.gt_int (AT hp x rfl)) va vb
 | ge=>exact El (P:=fun a b=>VR U.sa ρ a a'->VR U.sa ρ b b'->_) hp (fun i j hp va vb=>va.intE (P:=fun y=>wpAny _ _ (compareOp _ y _) _ _ _) fun t=>vb.intE (P:=fun y=>wpAny _ _ (compareOp _ _ y) _ _ _) fun u=>PyProof.Rows.ge_int (AT hp x rfl)) va vb
end
section
variable{U:Un}{xc:Value}{X:Fx}{ρ:A9}{H:MH}{s:Shared}{A:Around}{E:Value->Shared->Prop}{Q:Value->Shared->Prop}{Ad:PySem.Env}{n:Nat}
inductive FS.madeI(U:Un)(xc:Value)(X:Fx)(ρ:A9)(H:MH)(s:Shared)(E:Value->Shared->Prop)(Q:Value->Shared->Prop):Prop
 | mk (l:_) (q0:News X.G X.L s.heap l) (q1:(∀p ∈ X.px,p ∈ l)) (q2:(∀q ∈ l,q.1 < s.heap.objs.size)) (q3:∀{c:Af} {o:Obj} {h':Heap} {tk:Nat},Ae (Aq U) U xc X ρ (alloc c H) Q E s->Fr X.G X.L h' X.m->News X.G X.L h' ((s.heap.objs.size,o)::l)->CR U (ρ++[(s.heap.objs.size,s.heap.objs.size)]) c (s.heap.objs.size,s.heap.objs.size) [(s.heap.objs.size,o)]->Q (.ref s.heap.objs.size) { s with heap:=h',toks:=tk}):FS.madeI U xc X ρ H s E Q
theorem FS.made(gf:GF U X.G)(x:AL U X ρ H s.heap):FS.madeI U xc X ρ H s E Q:=by
 obtain⟨l,N,D,sub,back⟩:=FS.all x
 have lo:3 < s.heap.objs.size:=by
  have h1:=x.fr.above
  have h2:(X.L:Nat) < s.heap.objs.size:=x.fr.ns.lt
  have h3:2 < X.G.objs.size:=by
   obtain⟨mc,hn,_⟩:=gf.T.nolimit
   exact hn.lt
  exact Nat.lt_of_le_of_lt (Nat.le_trans h3 h1) h2
 refine⟨l,N,sub,fun q hq=>Heap.lt_size (N q hq).1,fun {c o h' tk} hp F' N' cr=> ?_⟩
 have y:=back c (s.heap.objs.size,s.heap.objs.size) [(s.heap.objs.size,o)] h' F' N' (fun p hp q hq=>by
  rw[List.mem_singleton.mp hp];exact Heap.lt_size (N q hq).1) (by unfold By;simp) (fun p hp=>by rw[List.mem_singleton.mp hp];exact lo) cr
 refine hp _ _ h' tk (List.prefix_append ..) y ?_
 refine⟨(s.heap.objs.size,s.heap.objs.size),?_,rfl⟩
 rw[<-FS.len x];simp
theorem BY{k:Nat}(h:k<=BR):k<=sizeLine:=by rw[sizeLine_eq];unfold BR at h;exact zz ‹_› (by rfl)
theorem VB(gf:GF U X.G)(x:AL U X ρ H s.heap){xs:List V}{vs:List Value}(v:C3 U.sa ρ xs vs)(hl:xs.length<=BR)(hp:Ae (Aq U) U xc X ρ (alloc (.list xs) H) Q E s):
  wpAny (model U.prog U.w) A (newList vs) Q E s:=by
 obtain⟨l,N,_,_,k⟩:=FS.made (xc:=xc) (Q:=Q) (E:=E) gf x
 refine newList_N x.fr N (fun h' F' N'=>k hp F' N' ⟨vs,0,rfl,v.mono (List.prefix_append ..)⟩) ?_
 rw[v.length];exact BY hl
theorem Vl(gf:GF U X.G)(x:AL U X ρ H s.heap){xs:List V}{vs:List Value}(v:C3 U.sa ρ xs vs)(hl:xs.length<=BR)(hp:Ae (Aq U) U xc X ρ (alloc (.tup xs) H) Q E s):
  wpAny (model U.prog U.w) A (newTuple vs) Q E s:=by
 obtain⟨l,N,_,_,k⟩:=FS.made (xc:=xc) (Q:=Q) (E:=E) gf x
 refine newTuple_N x.fr N (fun h' F' N'=>k hp F' N' ⟨vs,rfl,v.mono (List.prefix_append ..)⟩) ?_
 rw[v.length];exact BY hl
theorem Re(gf:GF U X.G)(x:AL U X ρ H s.heap){env:PySem.Env}{pos:Pos}(hp:Ae (Aq U) U xc X ρ (alloc (.dictW []) H) Q E s):
  wpAny (model U.prog U.w) A (eval (.Dict [] [] pos) env) Q E s:=by
 obtain⟨l,N,_,_,k⟩:=FS.made (xc:=xc) (Q:=Q) (E:=E) gf x
 refine wpAny_Dict_empty (k (o:={ cls:= .type "dict",data:= .dict #[]}) hp (x.fr.push _) (N.push x.fr _) ⟨_,[],rfl,?_,trivial⟩)
 obtain⟨o,ho,hd⟩:=Heap.dictOf_iff.mp (Heap.DictOf.new (knd:=PySem.strKind U.prog U.w) s.heap)
 rw[Heap.get?_push_size _ rfl]at ho
 cases ho
 exact hd
theorem PY(gf:GF U X.G)(x:AL U X ρ H s.heap){env:PySem.Env}{pos:Pos}(hp:Ae (Aq U) U xc X ρ (alloc (.dictI []) H) Q E s):
  wpAny (model U.prog U.w) A (eval (.Dict [] [] pos) env) Q E s:=by
 obtain⟨l,N,_,_,k⟩:=FS.made (xc:=xc) (Q:=Q) (E:=E) gf x
 refine wpAny_Dict_empty (k (o:={ cls:= .type "dict",data:= .dict #[]}) hp (x.fr.push _) (N.push x.fr _) ⟨_,[],rfl,?_,trivial⟩)
 obtain⟨o,ho,hd⟩:=Heap.dictOf_iff.mp (Heap.DictOf.new (knd:=PySem.intKind U.prog U.w) s.heap)
 rw[Heap.get?_push_size _ rfl]at ho
 cases ho
 exact hd
inductive Wr(U:Un)(X:Fx)(ρ:A9)(s:Shared)(i:Nat)(xs:List V):Prop
 | mk (a:Addr×Addr) (vs:List Value) (n:Nat) (news:List (Addr×Obj)) (e:ρ[i]? =some a) (hv:C3 U.sa ρ xs vs) (N:News X.G X.L s.heap news) (hm:(a.1,W.listOf (List.toArray vs) n) ∈ news) (z:True):Wr U X ρ s i xs
theorem FS.listC(x:AL U X ρ H s.heap){i:Nat}{xs:List V}(hc:H[i]? =some (.list xs)):Wr U X ρ s i xs:=by
 obtain⟨ad,nn,pre,post,e1,⟨vs,n,rfl,Ec⟩,N,_⟩:=x.cell hc
 exact⟨ad,vs,n,_,e1,Ec,N,L8 _ _ _,trivial⟩
theorem Ys{n:Nat}(h:n < 100):n<=sizeLine:=by rw[sizeLine_eq];exact bD ‹_› (by rfl)
theorem C3.one'{sa:Addr}{v:V}{xs:List Value}(h:C3 sa ρ [v] xs):∃z,xs=[z]/\VR sa ρ v z:=by
 cases xs with
 | nil=>exact h.elim
 | cons z r=>cases r with
  | nil=>exact⟨z,rfl,h.1⟩
  | cons _ _=>exact h.2.elim
theorem N3(gf:GF U X.G)(x:AL U X ρ H s.heap){v:V}{v':Value}(hv:Aq U ρ v v')(hp:Ae (Aq U) U xc X ρ (OP v H) Q E s):
  wpAny (model U.prog U.w) A (call (.type "list") [v']) Q E s:=by
 refine Bx (P:=fun o=>Aq U ρ o v'->_) hp (fun i c hc hp hv=> ?_) hv
 refine EK (P:=fun c=>H[i]? =some c->_) hp (fun xs hp hc=>CA hp fun hl hp=> ?_) hc
 refine hv.refE (P:=fun y=>wpAny _ _ (call _ [y]) _ _ _) fun p ep=> ?_
 obtain⟨a,vs,c,news,e1,Ec,N₀,hm,_⟩:=x.listC hc
 cases ep.symm.trans e1
 obtain⟨l,N,_,Ef,k⟩:=FS.made (xc:=xc) (Q:=Q) (E:=E) gf x
 refine call_list_seq (hsz:= ?_) p.1 (.inl rfl) (N₀ _ hm).1 rfl rfl fun h' c' hk hD=>k hp (x.fr.keeps hk) (news_pushed x.fr N hk hD rfl) ⟨vs,c',rfl,Ec.mono (List.prefix_append ..)⟩
 rw[List.size_toArray,Ec.length];exact BY hl
theorem F5.length{sa:Addr}{ρ:A9}:∀{kvs:List (Nat×V)} {es:List (Str×Value)},F5 sa ρ kvs es->es.length=kvs.length
 | [],[],_=>rfl
 | [],_::_,h=>h.elim
 | _::_,[],h=>h.elim
 | _::_,_::_,⟨_,_,h⟩=>congrArg (·+1) h.length
theorem Mg.length{sa:Addr}{ρ:A9}:∀{kvs:List (Int×V)} {es:List (Int×Value)},Mg sa ρ kvs es->es.length=kvs.length
 | [],[],_=>rfl
 | [],_::_,h=>h.elim
 | _::_,[],h=>h.elim
 | _::_,_::_,⟨_,_,h⟩=>congrArg (·+1) h.length
theorem NO(gf:GF U X.G)(x:AL U X ρ H s.heap){v:V}{v':Value}(hv:Aq U ρ v v')(hp:Ae (Aq U) U xc X ρ (OE v H) Q E s):
  wpAny (model U.prog U.w) A (call (.type "dict") [v']) Q E s:=by
 refine Bx (P:=fun o=>Aq U ρ o v'->_) hp (fun i c hc hp hv=> ?_) hv
 refine Sg (P:=fun c=>H[i]? =some c->_) hp (fun kvs hp hc=>CA hp fun hl hp=> ?_) hc
 refine hv.refE (P:=fun y=>wpAny _ _ (call _ [y]) _ _ _) fun p ep=> ?_
 obtain⟨o,es,ho,hd,vv,lo⟩:=x.pD ep hc
 obtain⟨l,N,_,Ef,k⟩:=FS.made (xc:=xc) (Q:=Q) (E:=E) gf x
 refine kt_call_dict (knd:=PySem.strKind U.prog U.w) (Dw lo) (Heap.dictOf_iff.mpr ⟨o,ho,hd⟩) (by rw[vv.length];exact Ys hl) fun h' hD hs=> ?_
 obtain⟨o',ho',hd'⟩:=Heap.dictOf_iff.mp hD
 exact k hp (x.fr.filled hs) (N.filled x.fr hs ho') ⟨o',es,rfl,hd',vv.mono (List.prefix_append ..)⟩
theorem Kf{α:Type}(x:α):∀(k:Nat) (acc:Array α),List.foldl (fun x1 x2=>x1++x2) acc (List.replicate k #[x])=acc++(List.replicate k x).toArray
 | 0,acc=>by simp
 | k+1,acc=>by
  rw[List.replicate_succ,List.foldl_cons,Kf x k,List.replicate_succ]
  apply Array.toList_inj.mp
  simp
theorem Sf:(2:Int) ^ 63=9223372036854775808:=by decide
theorem Vx(gf:GF U X.G)(x:AL U X ρ H s.heap){l k:V}{l' k':Value}(vl:Aq U ρ l l')(vk:Aq U ρ k k')(hp:Ae (Aq U) U xc X ρ (M5 .mul l k H) Q E s):
  wpAny (model U.prog U.w) A (binaryOp .Mult l' k') Q E s:=by
 refine V6 (P:=fun l=>Aq U ρ l l'->_) hp (fun i hp vl=> ?_) vl
 refine E6 (P:=fun k=>Aq U ρ k k'->_) hp (fun k hp vk=> ?_) vk
 refine Dk (o:=H[i]?) hp fun c hc hp=> ?_
 refine EK (P:=fun c=>H[i]? =some c->_) hp (fun xs hp hc=> ?_) hc
 cases xs with
 | nil=>exact hp.elim
 | cons y r=>
  refine CA hp fun hk hq=> ?_
  cases List.isEmpty_iff.mp hk.1
  refine vl.refE (P:=fun y=>wpAny _ _ (binaryOp _ y _) _ _ _) fun p ep=>vk.intE (P:=fun y=>wpAny _ _ (binaryOp _ _ y) _ _ _) fun u=> ?_
  obtain⟨a,vs,c,news,e1,Ec,N₀,hm,_⟩:=x.listC hc
  cases ep.symm.trans e1
  obtain⟨l₂,N,_,Ef,kk⟩:=FS.made (xc:=xc) (Q:=Q) (E:=E) gf x
  obtain⟨z,rfl,hz⟩:=Ec.one'
  have hb:=hk.2
  refine mul_list x.fr N (N₀ _ hm).1 (by rewrite [Sf];clear kk hq;exact eC (And.left ‹_›)) (by rewrite [Sf];clear kk hq;exact eB (And.right (And.right ‹_›)) (by rfl)) (by show 1 * k.toNat<=16777216;clear kk hq;exact i1 (And.right (And.right ‹_›)) (by rfl)) fun h' F' N'=>kk hq F' N' ?_
  refine⟨List.replicate k.toNat z,0,?_,(C3.replicate hz _).mono (List.prefix_append ..)⟩
  have:=Kf z k.toNat #[]
  rw[Array.empty_append]at this
  rw[show([z].toArray:Array Value)=#[z]from rfl,if_neg (show ¬(#[z]:Array Value).isEmpty=true from Bool.false_ne_true),this]
theorem Se(gf:GF U X.G)(x:AL U X ρ H s.heap){l k:Nat}{l' k':Value}(vl:Aq U ρ (.ref l) l')(vk:Aq U ρ (.ref k) k')(hp:Ae (Aq U) U xc X ρ (M5 .add (.ref l) (.ref k) H) Q E s):
  wpAny (model U.prog U.w) A (binaryOp .Add l' k') Q E s:=by
 refine Dk (o:=H[l]?) hp fun c hc hp=>Dk (o:=H[k]?) hp fun d hd hp=> ?_
 refine EK (P:=fun c=>H[l]? =some c->_) hp (fun xs hp hc=>EK (P:=fun d=>H[k]? =some d->_) hp (fun ys hp hd=>CA hp fun hk hp=> ?_) hd) hc
 refine vl.refE (P:=fun y=>wpAny _ _ (binaryOp _ y _) _ _ _) fun p ep=>vk.refE (P:=fun y=>wpAny _ _ (binaryOp _ _ y) _ _ _) fun q eq=> ?_
 obtain⟨vs,il,Ec,_⟩:=x.pL ep hc
 obtain⟨ws,jl,hws,_⟩:=x.pL eq hd
 obtain⟨l₂,N,_,Ef,kk⟩:=FS.made (xc:=xc) (Q:=Q) (E:=E) gf x
 refine add_arrays (hsz:= ?_) x.fr N il jl fun h' F' N'=>kk hp F' N' ⟨vs++ws,0,rfl,(Ec.append hws).mono (List.prefix_append ..)⟩
 rw[List.size_toArray,List.size_toArray,Ec.length,hws.length];exact BY hk
theorem Qq{a b:Int}(h:0 < b):a.fmod b=a % b:=Int.fmod_eq_emod_of_nonneg a (Int.le_of_lt h)
theorem Ss{a b:Int}(h:0 < b):a.fdiv b=a / b:=Int.fdiv_eq_ediv_of_nonneg a (Int.le_of_lt h)
noncomputable def QV:U3->Operator
 | .add=> .Add | .sub=> .Sub | .mul=> .Mult | .mod=> .Mod | .fdiv=> .FloorDiv
theorem TX(cx:Cx U A X Ad n)(x:AL U X ρ H s.heap){op:U3}{a b:V}{a' b':Value}(va:Aq U ρ a a')(vb:Aq U ρ b b')(hp:Ae (Aq U) U xc X ρ (M5 op a b H) Q E s):
  wpAny (model U.prog U.w) A (binaryOp (QV op) a' b') Q E s:=by
 cases op with
 | mul=>exact Vx cx.gf x va vb hp
 | add=>
  cases a with
  | int i=>exact E6 (P:=fun b=>Aq U ρ b b'->_) hp (fun j hp vb=>va.intE (P:=fun y=>wpAny _ _ (binaryOp _ y _) _ _ _) fun t=>vb.intE (P:=fun y=>wpAny _ _ (binaryOp _ _ y) _ _ _) fun u=>wpAny_add_int (AT hp x ⟨_,rfl⟩)) vb
  | ref l=>exact V6 (P:=fun b=>Ae (Aq U) U xc X ρ (M5 .add (.ref l) b H) Q E s->Aq U ρ b b'->_) hp (fun k J hp vb=>Se cx.gf x va vb hp) hp vb
  | _=>exact hp.elim
 | sub=>exact El (P:=fun a b=>Aq U ρ a a'->Aq U ρ b b'->_) hp (fun i j hp va vb=>va.intE (P:=fun y=>wpAny _ _ (binaryOp _ y _) _ _ _) fun t=>vb.intE (P:=fun y=>wpAny _ _ (binaryOp _ _ y) _ _ _) fun u=>PyProof.Rows.sub_int (AT hp x ⟨_,rfl⟩)) va vb
 | mod=>exact El (P:=fun a b=>Aq U ρ a a'->Aq U ρ b b'->_) hp (fun i j hp va vb=>va.intE (P:=fun y=>wpAny _ _ (binaryOp _ y _) _ _ _) fun t=>vb.intE (P:=fun y=>wpAny _ _ (binaryOp _ _ y) _ _ _) fun u=>CA hp fun hj hp=>mod_int' (Int.ne_of_gt hj) (AT hp x ⟨_,by rw[Qq hj]⟩)) va vb
 | fdiv=>exact El (P:=fun a b=>Aq U ρ a a'->Aq U ρ b b'->_) hp (fun i j hp va vb=>va.intE (P:=fun y=>wpAny _ _ (binaryOp _ y _) _ _ _) fun t=>vb.intE (P:=fun y=>wpAny _ _ (binaryOp _ _ y) _ _ _) fun u=>CA hp fun hj hp=>by
  have h0:(0:Int) < j:=by rw[hj];decide
  exact floordiv_int (Int.ne_of_gt h0) (AT hp x ⟨_,by rw[Ss h0]⟩)) va vb
end
noncomputable def Hs:Ty->String
 | .str=>"str" | .int=>"int" | .list=>"list"
structure UG(U:Un):Prop where
 notT:∀c,kin_notT U.K (U.cls c) "str"=true
 gcls:∀c,plainGet U.K (U.cls c) "__class__"=true
 fcls:∀c,findIn U.K (.ref (U.cls c)) "__class__"=some (some (.builtin "object.__class__"))
 scls:specialIn U.K (.builtin "object.__class__") "__get__"=some (some (.builtin "getset_descriptor.__get__"))
 tcls:takesIn U.K (.builtin "object.__class__")=some true
 mro:∀c,mroIn U.K (U.cls c) (.type "object")=some true
section
variable{U:Un}{xc:Value}{X:Fx}{ρ:A9}{H:MH}{s:Shared}{A:Around}{E:Value->Shared->Prop}{Q:Value->Shared->Prop}{Ad:PySem.Env}{n:Nat}
theorem KO(slice:Expr)(o i:Value):∃ops,subscripted slice false o i=operate ops (getItem o i):=by
 refine⟨subscripted.match_1 (fun J J=>List Value) slice false (fun J J J J=>[i,o]) (fun J=>[o,i]) fun J=>[o,i],Eq.symm ?_⟩
 cases slice<;>first | rfl | (cases step<;>rfl)
theorem RJ{α β:Type}{rel:A9->α->β->Prop}{Q:β->Shared->Prop}{o:Option α}(hp:Ae rel U xc X ρ (Cp o H) Q E s):∃a,o=some a/\Ae rel U xc X ρ (.ok a H) Q E s:=by
 cases o with
 | none=>exact hp.elim
 | some a=>exact⟨a,rfl,hp⟩
theorem Kk{k:Int}(h:k<=BR):k < 2 ^ 63:=by rewrite [Sf];unfold BR at h;exact eB ‹_› (by rfl)
set_option tactic.hygienic true in
theorem UA{vs:List Value}{k:Int}{y:Value}(h0:0<=k)(ey:vs[k.toNat]? =some y):seqIndex? k vs.toArray.size=some k.toNat:=by
 have Ef:k.toNat < vs.length:=(Er.mp ey).1
 unfold seqIndex?
 rw[List.size_toArray]
 simp only
 split
 .rename_i h;exfalso;revert h;simp;omega
 .rename_i h;simp at h ⊢;exact e5 ‹_› ‹_›
theorem LB(x:AL U X ρ H s.heap){i':Value}{i:V}{value slice:Expr}{p:Addr×Addr}{kvs:List (Nat×V)}(d:YN U ρ s.heap kvs p.1)(vi:Aq U ρ i i')(hp:Ae (Aq U) U xc X ρ (SI i kvs H) Q E s):wpAny (model U.prog U.w) A (subscriptTail value slice (.ref p.1) i') Q E s:=by
 refine HC (P:=fun i=>Aq U ρ i i'->_) hp (fun k hp vi=>Fd hp fun v ev hp=> ?_) vi
 refine vi.wE (P:=fun y=>wpAny _ _ (subscriptTail _ _ _ y) _ _ _) fun t=> ?_
 obtain⟨o,es,ho,hd,vv,lo⟩:=d
 obtain⟨y,ey,hy⟩:=(vv.look (k:=k)).2 v ev
 obtain⟨ops,hs⟩:=KO slice (.ref p.1) (.str (wd k) t)
 have hD:s.heap.DictOf (PySem.strKind U.prog U.w) p.1 es:=Heap.dictOf_iff.mpr ⟨o,ho,hd⟩
 exact tail_any hD.typeIs slot_dict_getitem.lookup (wpAny_getItem_of (strKind_is _ _ _ _) hD.mapOf ey (Cz hp x hy)) hs
theorem TF(x:AL U X ρ H s.heap){o i:V}{o' i':Value}(vo:Aq U ρ o o')(vi:Aq U ρ i i'){value slice:Expr}(hp:Ae (Aq U) U xc X ρ (Yn o i H) Q E s):
  wpAny (model U.prog U.w) A (subscriptTail value slice o' i') Q E s:=by
 refine Bx (P:=fun o=>Aq U ρ o o'->_) hp (fun j c hc hp vo=> ?_) vo
 refine vo.refE (P:=fun y=>wpAny _ _ (subscriptTail _ _ y _) _ _ _) fun p ep=> ?_
 cases c with
 | list xs=>
  refine E6 (P:=fun i=>Aq U ρ i i'->_) hp (fun k hp vi=>CA hp fun hk hp=>Fd hp fun v ev hp=> ?_) vi
  refine vi.intE (P:=fun y=>wpAny _ _ (subscriptTail _ _ _ y) _ _ _) fun t=> ?_
  obtain⟨ops,hs⟩:=KO slice (.ref p.1) (.int k t)
  obtain⟨vs,il,vv,_⟩:=x.pL ep hc
  obtain⟨y,ey,hy⟩:=vv.get ev
  exact tail_any il.typeIs slot_list_getitem.lookup (wpAny_getItem_list il hk.1 (Kk hk.2) (by rw[List.getElem?_toArray];exact ey) (Cz hp x hy)) hs
 | tup xs=>
  refine E6 (P:=fun i=>Aq U ρ i i'->_) hp (fun k hp vi=>CA hp fun hk hp=>Fd hp fun v ev hp=> ?_) vi
  refine vi.intE (P:=fun y=>wpAny _ _ (subscriptTail _ _ _ y) _ _ _) fun t=> ?_
  obtain⟨ops,hs⟩:=KO slice (.ref p.1) (.int k t)
  obtain⟨vs,il,vv,_⟩:=x.pT ep hc
  obtain⟨y,ey,hy⟩:=vv.get ev
  exact tail_any il.typeIs slot_tuple_getitem.lookup (PyProof.Rows.getItem_tuple il (Int.le_trans (by decide) hk.1) (Kk hk.2) (j:=k.toNat) (UA hk.1 ey) (by rw[List.getElem?_toArray];exact ey) (Cz hp x hy)) hs
 | dictW kvs=>exact LB x (x.pD ep hc) vi hp
 | dictP kvs=>exact LB x (x.pP ep hc) vi hp
 | _=>exact hp.elim
theorem Ua(x:AL U X ρ H s.heap){v:V}{v':Value}(hv:Aq U ρ v v')(hp:Ae (Aq U) U xc X ρ (VP v H) Q E s):
  wpAny (model U.prog U.w) A (call (.builtin "len") [v']) Q E s:=by
 refine Bx (P:=fun o=>Aq U ρ o v'->_) hp (fun i c hc hp hv=> ?_) hv
 refine EK (P:=fun c=>H[i]? =some c->_) hp (fun xs hp hc=>CA hp fun hl hp=> ?_) hc
 refine hv.refE (P:=fun y=>wpAny _ _ (call _ [y]) _ _ _) fun p ep=> ?_
 obtain⟨vs,il,vv,_⟩:=x.pL ep hc
 refine call_len_list il ?_ ?_
 .rw [List.size_toArray,vv.length]
  exact Kk (by exact_mod_cast hl)
 .exact AT (tk:=s.toks+1+1) hp x ⟨_,by rw[List.size_toArray,vv.length]⟩
theorem UP(x:AL U X ρ H s.heap)(gf:GF U X.G){v:V}{v':Value}(hv:Aq U ρ v v')(hp:Ae (Aq U) U xc X ρ (I3 v H) Q E s):
  wpAny (model U.prog U.w) A (call (.builtin "isinstance") [v',.ref (U.cls .vector)]) Q E s:=by
 refine Bx (P:=fun o=>Aq U ρ o v'->_) hp (fun i c hc hp hv=> ?_) hv
 refine Qw (P:=fun c=>H[i]? =some c->_) hp (fun k fs hp hc=>CA hp fun hk hp=> ?_) hc
 refine hv.refE (P:=fun y=>wpAny _ _ (call _ [y,_]) _ _ _) fun p ep=> ?_
 cases k with
 | null=>exact AK hk
 | vector=>
  obtain⟨es,nd,news,N,m1,m2,_,_,_⟩:=x.pN ep hc
  exact isi_call (K:=U.K) (t:= .ref (U.cls .vector)) (gf.K.keeps x.fr.keep) (fun M=>InstAt.type (W.InstAt.of_news N m1 m2)) (by unfold isIn;simp) (by intro q;cases q) (AT (tk:=s.toks) hp x rfl)
theorem VF(ug:UG U)(x:AL U X ρ H s.heap)(uf:UF U)(gf:GF U X.G){i:Nat}{p:Addr×Addr}{c:Af}{t:Ty}{b:Bool}(ep:ρ[i]? =some p)(hc:H[i]? =some c)(h:dX t c=some b)(hq:∀tk,Q (.bool b) { s with toks:=tk}):
  wpAny (model U.prog U.w) A (call (.builtin "isinstance") [.ref p.1,.type (Hs t)]) Q E s:=by
 cases c with
 | list xs=>
  obtain⟨a,vs,c,news,e1,Ec,N,hm,_⟩:=x.listC hc
  cases ep.symm.trans e1
  cases t with
  | list=>cases h;exact IsiPair.list_list (N _ hm).1 rfl (hq _)
  | _=>exact FJ h
 | tup xs=>
  obtain⟨ad,nn,pre,post,e1,⟨vs,rfl,Ec⟩,N,_⟩:=x.cell hc
  cases ep.symm.trans e1
  cases t with
  | list=>cases h;exact IsiPair.tuple_list (N.get (L8 _ _ _)) rfl (hq _)
  | _=>exact FJ h
 | inst k fs=>
  obtain⟨es,nd,news,N,m1,m2,_,_,_⟩:=x.pN ep hc
  cases t with
  | str=>cases h;exact kin_callT (gf.K.keeps x.fr.keep) (W.InstAt.of_news N m1 m2) (ug.notT k) (by first | exact PySem.isi_meta_str | exact PySem.IsiPair.isi_meta_str | exact PySem.F.isi_meta_str) (ug.gcls k) (uf.dict k) (ug.fcls k) ug.scls ug.tcls (ug.mro k) (hq _)
  | _=>exact FJ h
 | _=>exact FJ h
theorem UL(ug:UG U)(x:AL U X ρ H s.heap)(uf:UF U)(gf:GF U X.G){v:V}{v':Value}{t:Ty}(hv:Aq U ρ v v')(hp:Ae (Aq U) U xc X ρ (O3 v t H) Q E s):
  wpAny (model U.prog U.w) A (call (.builtin "isinstance") [v',.type (Hs t)]) Q E s:=by
 cases v with
 | w i=>
  refine hv.wE (P:=fun y=>wpAny _ _ (call _ [y,_]) _ _ _) fun u=> ?_
  cases t with
  | str=>exact IsiPair.str_str (Cz (tk:=s.toks) hp x rfl)
  | int=>exact IsiPair.str_int (Cz hp x rfl)
  | list=>exact hp.elim
 | int i=>
  refine hv.intE (P:=fun y=>wpAny _ _ (call _ [y,_]) _ _ _) fun u=> ?_
  cases t with
  | str=>exact IsiPair.int_str (Cz hp x rfl)
  | int=>exact IsiPair.int_int (Cz (tk:=s.toks) hp x rfl)
  | list=>exact hp.elim
 | ref a=>
  refine hv.refE (P:=fun y=>wpAny _ _ (call _ [y,_]) _ _ _) fun p ep=> ?_
  exact Dk (o:=H[a]?) hp fun c hc hp=>Dk hp fun b hb hp=>VF ug x uf gf ep hc hb fun tk=>AT hp x rfl
 | _=>exact hp.elim
theorem UX(cx:Cx U A X Ad n)(x:AL U X ρ H s.heap){a b:V}{a' b':Value}(va:Aq U ρ a a')(vb:Aq U ρ b b')(hp:Ae (Aq U) U xc X ρ (XA a b H) Q E s):
  wpAny (model U.prog U.w) A (call (.builtin "max") [a',b']) Q E s:=by
 refine El (P:=fun a b=>Aq U ρ a a'->Aq U ρ b b'->_) hp (fun i j hp va vb=> ?_) va vb
 refine va.intE (P:=fun y=>wpAny _ _ (call _ [y,_]) _ _ _) fun t=>vb.intE (P:=fun y=>wpAny _ _ (call _ [_,y]) _ _ _) fun u=> ?_
 refine max_two_ints cx.hh fun h' tk hk=> ?_
 have:=hp ρ (.int (if j > i then j else i) (if j > i then u else t)) h' tk (BF _) (FS.keeps x hk) ⟨_,rfl⟩
 by_cases c:j > i
 .rw [if_pos c]at this ⊢;rw[if_pos c]at this;exact this
 .rw [if_neg c]at this ⊢;rw[if_neg c]at this;exact this
end
section
variable{U:Un}{xc:Value}{X:Fx}{ρ:A9}{H:MH}{s:Shared}{A:Around}{E:Value->Shared->Prop}{Q:Value->Shared->Prop}{Ad:PySem.Env}{n:Nat}
inductive FS.listCellI(U:Un)(X:Fx)(ρ:A9)(H:MH)(s:Shared)(i:Nat)(xs:List V):Prop
 | mk (a:_) (vs:_) (n:_) (news:_) (q0:ρ[i]? =some a) (q1:C3 U.sa ρ xs vs) (q2:News X.G X.L s.heap news) (q3:(a.1,listOf (List.toArray vs) n) ∈ news) (q4:∀xs' vs' n',C3 U.sa ρ xs' vs'->∃news',Upd a.1 (listOf (List.toArray vs) n) (listOf (List.toArray vs') n') news news'/\∀h',Fr X.G X.L h' X.m->News X.G X.L h' news'->AL U X ρ (H.set i (.list xs')) h'):FS.listCellI U X ρ H s i xs
theorem FS.listCell(x:AL U X ρ H s.heap){i:Nat}{xs:List V}(hc:H[i]? =some (.list xs)):FS.listCellI U X ρ H s i xs:=by
 obtain⟨ad,nn,pre,post,e1,⟨vs,n,rfl,Ec⟩,N,D,lo,_,back⟩:=x.cell hc
 have w:∀o:Obj,pre++[(ad.1,o)]++post=pre++(ad.1,o)::post:=fun o=>by simp
 refine⟨ad,vs,n,_,e1,Ec,N,L8 _ _ _,fun xs' vs' n' v'=>⟨pre++[(ad.1,listOf (List.toArray vs') n')]++post,?_,fun h' F' N'=>back (.list xs') _ h' F' N' rfl ⟨vs',n',rfl,v'⟩⟩⟩
 rw[w,w]
 rw[w]at D
 exact ND D
theorem Ix{c':Af}{i:Nat}(hp:Ae (Aq U) U xc X ρ (bnd (D6 (.ref i) c') (fun J=>Mine.ret .none) H) Q E s){h':Heap}{tk:Nat}(x:AL U X ρ (H.set i c') h'):Q .none { s with heap:=h',toks:=tk}:=
 hp ρ .none h' tk (BF _) x rfl
inductive fR(U:Un)(X:Fx)(ρ:A9)(H:MH)(s:Shared)(i:Nat)(xs:List V)(p:Addr×Addr):Prop
 | mk (vs:List Value) (n:Nat) (news:List (Addr×Obj)) (hv:C3 U.sa ρ xs vs) (N:News X.G X.L s.heap news) (hm:(p.1,listOf (List.toArray vs) n) ∈ news)
  (back:∀xs' vs' n',C3 U.sa ρ xs' vs'->∃news',Upd p.1 (listOf (List.toArray vs) n) (listOf (List.toArray vs') n') news news'/\∀h',Fr X.G X.L h' X.m->News X.G X.L h' news'->AL U X ρ (H.set i (.list xs')) h'):fR U X ρ H s i xs p
theorem FS.lAt(x:AL U X ρ H s.heap){i:Nat}{xs:List V}{p:Addr×Addr}(ep:ρ[i]? =some p)(hc:H[i]? =some (.list xs)):fR U X ρ H s i xs p:=by
 obtain⟨a,vs,n,news,e1,Ec,N,hm,back⟩:=FS.listCell x hc
 cases ep.symm.trans e1
 exact⟨vs,n,news,Ec,N,hm,back⟩
theorem Of(x:AL U X ρ H s.heap){o v:V}{o' v':Value}(vo:Aq U ρ o o')(vv:Aq U ρ v v')(hp:Ae (Aq U) U xc X ρ (H6 o v H) Q E s):
  wpAny (model U.prog U.w) A (call (.builtin "list.append") [o',v']) Q E s:=by
 refine Fz (P:=fun o=>Aq U ρ o o'->_) hp (fun i c hc hp vo=> ?_) vo
 refine EK (P:=fun c=>H[i]? =some c->_) hp (fun xs hp hc=>CA hp fun hl hp=> ?_) hc
 refine vo.refE (P:=fun y=>wpAny _ _ (call _ [y,_]) _ _ _) fun p ep=> ?_
 obtain⟨vs,n,news,Ec,N,hm,back⟩:=x.lAt ep hc
 obtain⟨news',up,k⟩:=back (xs++[v]) (vs++[v']) (n+1) (Ec.append (.one vv))
 exact append_K (its:=vs.toArray) x.fr N (n:=n) (news':=news') (by rw[List.push_toArray];exact up) (fun h' F' N'=>Ix (tk:=s.toks) hp (k h' F' N')) (by rw[List.size_toArray,Ec.length];exact BY hl)
theorem MC(x:AL U X ρ H s.heap){o:V}{o':Value}(vo:Aq U ρ o o')(hp:Ae (Aq U) U xc X ρ (GK o H) Q E s):
  wpAny (model U.prog U.w) A (call (.builtin "list.reverse") [o']) Q E s:=by
 refine Fz (P:=fun o=>Aq U ρ o o'->_) hp (fun i c hc hp vo=> ?_) vo
 refine EK (P:=fun c=>H[i]? =some c->_) hp (fun xs hp hc=>CA hp fun hl hp=> ?_) hc
 refine vo.refE (P:=fun y=>wpAny _ _ (call _ [y]) _ _ _) fun p ep=> ?_
 obtain⟨vs,n,news,Ec,N,hm,back⟩:=x.lAt ep hc
 obtain⟨news',up,k⟩:=back xs.reverse vs.reverse n Ec.reverse
 exact kl_reverse (its:=vs.toArray) x.fr N rfl up (by show vs.length<=_;rw[Ec.length];exact BY hl) (fun h' F' N'=>Ix (tk:=s.toks) hp (k h' F' N'))
theorem Ou{a b:Nat}(h:a+b<=BR):¬(Builtin.List.listTooLong (a+b))=true:=by
 simp[Builtin.List.listTooLong,sizeLine,BR]at h ⊢;exact zz ‹_› (by rfl)
inductive ZJ(U:Un)(X:Fx)(ρ:A9)(H:MH)(s:Shared)(i:Nat)(xs ys:List V)(p q:Addr×Addr):Prop
 | mk (vs:List Value) (n:Nat) (ws:List Value) (n2:Nat) (g1:s.heap.get? p.1=some (listOf (List.toArray vs) n)) (g2:s.heap.get? q.1=some (listOf (List.toArray ws) n2)) (hz:vs.toArray.size+ws.toArray.size<=BR)
  (fx:AL U X ρ (H.set i (.list (xs++ys))) (s.heap.update p.1 (Obj.mapSeq (·++ws.toArray)))):ZJ U X ρ H s i xs ys p q
theorem FS.ext(x:AL U X ρ H s.heap){i j:Nat}{xs ys:List V}{p q:Addr×Addr}(ep:ρ[i]? =some p)(eq:ρ[j]? =some q)(hc:H[i]? =some (.list xs))(hd:H[j]? =some (.list ys))(hl:xs.length+ys.length<=BR):ZJ U X ρ H s i xs ys p q:=by
 obtain⟨vs,n,news,Ec,N,hm,back⟩:=x.lAt ep hc
 obtain⟨ws,n2,news2,hws,N2,hm2,_⟩:=x.lAt eq hd
 obtain⟨news',up,k⟩:=back (xs++ys) (vs++ws) (if ws=[]then n else n+1) (Ec.append hws)
 have z:=N _ hm
 refine⟨vs,n,ws,n2,z.1,(N2 _ hm2).1,by rw[List.size_toArray,List.size_toArray,Ec.length,hws.length];exact hl,?_⟩
 obtain⟨pre,post,rfl,rfl,a1,b1⟩:=up.split
 refine k _ (x.fr.change (Heap.SameBut.update ..) z.2.1 z.2.2) (ki_turn _ N a1 b1 (List.append_toArray ..) ?_)
 by_cases hw:ws=[]
 .cases hw
  exact(if_pos (by rw[List.append_nil];exact beq_self_eq_true _)).trans (if_pos rfl).symm
 .have:ws.length≠0:=fun e=>hw (List.eq_nil_of_length_eq_zero e)
  rw[if_neg hw,if_neg]
  rw[beq_iff_eq,List.size_toArray,List.size_toArray,Qu]
  clear k up back
  omega
theorem NN(x:AL U X ρ H s.heap){o v:V}{o' v':Value}(vo:Aq U ρ o o')(vv:Aq U ρ v v')(hp:Ae (Aq U) U xc X ρ (CI o v H) Q E s):
  wpAny (model U.prog U.w) A (call (.builtin "list.extend") [o',v']) Q E s:=by
 unfold CI at hp
 by_cases hov:o=v
 .rw [if_pos hov]at hp;exact hp.elim
 rw[if_neg hov]at hp
 refine Fz (P:=fun o=>Aq U ρ o o'->_) hp (fun i c hc hp vo=>Bx (P:=fun v=>Aq U ρ v v'->_) hp (fun j d hd hp vv=> ?_) vv) vo
 refine EK (P:=fun c=>H[i]? =some c->_) hp (fun xs hp hc=>EK (P:=fun d=>H[j]? =some d->_) hp (fun ys hp hd=>CA hp fun hl hp=> ?_) hd) hc
 refine vo.refE (P:=fun y=>wpAny _ _ (call _ [y,_]) _ _ _) fun p ep=>vv.refE (P:=fun y=>wpAny _ _ (call _ [_,y]) _ _ _) fun q eq=> ?_
 obtain⟨vs,n,ws,n2,g1,g2,hz,fx⟩:=x.ext ep eq hc hd hl
 exact call_meets PySem.F.slot_list_extend ⟨_,g1,rfl⟩ PySem.F.entry_list_extend (PySem.F.args_list_extend_2 _ _) (PySem.AutoSeq1.list_extend_list_list_0 p.1 vs.toArray n q.1 ws.toArray n2 (fun h=>Ou hz ((DN _ _).mp h).2) (BY (Nat.le_trans (Nat.le_add_right _ _) hz)) (Nat.le_succ_of_le (BY hz))) ⟨g1,g2,Ix (tk:=s.toks) hp fx⟩
theorem UY(x:AL U X ρ H s.heap){o:V}{o':Value}(vo:Aq U ρ o o')(hp:Ae (Aq U) U xc X ρ (TL o H) Q E s):
  wpAny (model U.prog U.w) A (call (.builtin "list.pop") [o']) Q E s:=by
 refine Fz (P:=fun o=>Aq U ρ o o'->_) hp (fun i c hc hp vo=> ?_) vo
 refine EK (P:=fun c=>H[i]? =some c->_) hp (fun xs hp hc=>CA hp fun hl hp=>Dk hp fun v hx hp=> ?_) hc
 refine vo.refE (P:=fun y=>wpAny _ _ (call _ [y]) _ _ _) fun p ep=> ?_
 obtain⟨vs,n,news,Ec,N,hm,back⟩:=x.lAt ep hc
 obtain⟨news',up,k⟩:=back xs.dropLast vs.dropLast (n+1) Ec.dropLast
 have Ba:vs.length=xs.length:=Ec.length
 obtain⟨y,ey,hy⟩:=Ec.get ((List.getLast?_eq_getElem? ..).symm.trans hx)
 have hvl:vs.getLast? =some y:=by rw[List.getLast?_eq_getElem?,Ba];exact ey
 have hsp:vs.dropLast++[y]=vs:=by
  have hvne:vs≠[]:=fun e=>by rw[e]at hvl;cases hvl
  rw[List.getLast?_eq_some_getLast hvne]at hvl
  cases hvl
  exact List.dropLast_concat_getLast hvne
 have hk:=kpa_last y vs.dropLast
 rw[hsp]at hk
 exact kl_pop (its:=vs.toArray) (p:=vs.dropLast) (y:=y) x.fr N hk up (by show vs.length<=_;rw[Ba];exact BY hl.1) (fun h' F' N'=>hp ρ y h' s.toks (BF _) (k h' F' N') hy)
theorem KJ(x:AL U X ρ H s.heap){i:Nat}{xs:List V}(hc:H[i]? =some (.list xs)){k:Int}{v:V}{p:Addr×Addr}{t:Tok}{v':Value}(ep:ρ[i]? =some p)(vv:Aq U ρ v v'){Q:Unit->Shared->Prop}
  (h0:0<=k) (h1:k < xs.length) (h2:xs.length<=BR)
  (hq:∀h' tk,AL U X ρ (H.set i (.list (xs.set k.toNat v))) h'->Q () { s with heap:=h',toks:=tk}):wpAny (model U.prog U.w) A (setItem (.ref p.1) (.int k t) v') Q E s:=by
 obtain⟨vs,n,news,Ec,N,hm,back⟩:=x.lAt ep hc
 obtain⟨news',up,kk⟩:=back (xs.set k.toNat v) (vs.set k.toNat v') n (Ec.set vv _)
 obtain⟨pre,post,rfl,rfl,a1,b1⟩:=up.split
 have z:=N _ hm
 have Ba:=Ec.length
 refine ki_setAt (items:=vs.toArray) (n:=n) z.1 h0 (Kk (Int.le_trans (Int.le_of_lt h1) (by exact_mod_cast h2))) (by rw[List.size_toArray,Ba];exact h1) ?_
 refine hq _ _ (kk _ (x.fr.change (Heap.SameBut.update ..) z.2.1 z.2.2) (ki_turn _ N a1 b1 ?_ ?_))
 .apply Array.toList_inj.mp
  simp
 .simp
end
section
variable{K:Type}[DecidableEq K]
theorem HA(e:K×Value)(es:List (K×Value))(k:K)(v:Value)(hn:((e::es).map (·.1)).Nodup):
  stored (e::es) k v=if e.1=k then(k,v)::es else e::stored es k v:=by
 rw[List.map_cons,List.nodup_cons]at hn
 unfold stored
 rw[List.any_cons]
 by_cases h:e.1=k
 .subst h
  simp only [decide_true,Bool.true_or,if_true,List.map_cons]
  congr 1
  rw[List.map_congr_left (g:=id) (fun p hp=> ?_),List.map_id]
  rw[if_neg];rfl
  intro q
  exact hn.1 (List.mem_map.mpr ⟨p,hp,q⟩)
 .simp only [h,decide_false,Bool.false_or,if_false]
  split
  .simp [h]
  .rfl
end
theorem F5.stored{sa:Addr}{ρ:A9}{k:Nat}{v:V}{x:Value}(hv:VR sa ρ v x):∀{kvs:List (Nat×V)} {es:List (Str×Value)},F5 sa ρ kvs es->(es.map (·.1)).Nodup->F5 sa ρ (EX k v kvs) (stored es (wd k) x)
 | [],[],_,_=>⟨rfl,hv,trivial⟩
 | [],_::_,h,_=>h.elim
 | _::_,[],h,_=>h.elim
 | p::r,e::es,⟨h1,h2,h3⟩,hn=>by
  rw[HA _ _ _ _ hn]
  unfold EX
  by_cases h:p.1=k
  .rw [if_pos h,if_pos (by rw[h1,h])]
   exact⟨rfl,hv,h3⟩
  .rw [if_neg h,if_neg (by rw[h1];exact fun q=>h (Np q))]
   rw[List.map_cons,List.nodup_cons]at hn
   exact⟨h1,h2,F5.stored hv h3 hn.2⟩
theorem Mg.stored{sa:Addr}{ρ:A9}{k:Int}{v:V}{x:Value}(hv:VR sa ρ v x):∀{kvs:List (Int×V)} {es:List (Int×Value)},Mg sa ρ kvs es->(es.map (·.1)).Nodup->Mg sa ρ (LT k v kvs) (stored es k x)
 | [],[],_,_=>⟨rfl,hv,trivial⟩
 | [],_::_,h,_=>h.elim
 | _::_,[],h,_=>h.elim
 | p::r,e::es,⟨h1,h2,h3⟩,hn=>by
  rw[HA _ _ _ _ hn]
  unfold LT
  by_cases h:p.1=k
  .rw [if_pos h,if_pos (by rw[h1,h])]
   exact⟨rfl,hv,h3⟩
  .rw [if_neg h,if_neg (by rw[h1];exact h)]
   rw[List.map_cons,List.nodup_cons]at hn
   exact⟨h1,h2,Mg.stored hv h3 hn.2⟩
section
variable{U:Un}{xc:Value}{X:Fx}{ρ:A9}{H:MH}{s:Shared}{A:Around}{E:Value->Shared->Prop}{Q:Value->Shared->Prop}{Ad:PySem.Env}{n:Nat}
inductive FS.oneCellI(U:Un)(X:Fx)(ρ:A9)(H:MH)(s:Shared)(i:Nat)(c:Af):Prop
 | mk (a:_) (o:_) (news:_) (g:_) (q0:ρ[i]? =some a) (q1:3 < a.1) (q2:CR U ρ c a [(a.1,o)]) (q3:News X.G X.L s.heap news) (q4:(a.1,o) ∈ news) (q5:UpdF a.1 o news g) (q6:∀c' o' h',CR U ρ c' a [(a.1,o')]->Fr X.G X.L h' X.m->News X.G X.L h' (g o')->AL U X ρ (H.set i c') h'):FS.oneCellI U X ρ H s i c
theorem FS.oneCell(x:AL U X ρ H s.heap){i:Nat}{c:Af}(hc:H[i]? =some c)(h1:∀k fs,c≠.inst k fs/\c≠.tab):FS.oneCellI U X ρ H s i c:=by
 obtain⟨ad,nn,pre,post,e1,cr,N,D,lo,_,back⟩:=x.cell hc
 have w:∀o:Obj,pre++[(ad.1,o)]++post=pre++(ad.1,o)::post:=fun o=>by simp
 have one:∃o,nn=[(ad.1,o)]:=by
  cases c with
  | list xs=>obtain⟨vs,n,rfl,_⟩:=cr;exact⟨_,rfl⟩
  | tup xs=>obtain⟨vs,rfl,_⟩:=cr;exact⟨_,rfl⟩
  | dictW xs=>obtain⟨o,es,rfl,_⟩:=cr;exact⟨_,rfl⟩
  | dictP xs=>obtain⟨o,es,rfl,_⟩:=cr;exact⟨_,rfl⟩
  | dictI xs=>obtain⟨o,es,rfl,_⟩:=cr;exact⟨_,rfl⟩
  | inst k fs=>exact absurd rfl (h1 k fs).1
  | tab=>exact absurd rfl (h1 .null []).2
 obtain⟨o,rfl⟩:=one
 refine⟨ad,o,_,fun o'=>pre++[(ad.1,o')]++post,e1,lo _ (.head _),cr,N,L8 _ _ _,?_,fun c' o' h' y F' N'=>back c' _ h' F' N' rfl y⟩
 rw[w]
 rw[w]at D
 have:=Ox D
 simpa only [w]using this
inductive eZ(U:Un)(X:Fx)(ρ:A9)(H:MH)(s:Shared)(i:Nat)(kvs:List (Nat×V))(p:Addr×Addr):Prop
 | mk (o:Obj) (es:List (Str×Value)) (news:List (Addr×Obj)) (g:Obj->List (Addr×Obj)) (lo:3 < p.1) (hd:o.IsDictOf (PySem.strKind U.prog U.w) es) (vd:F5 U.sa ρ kvs es) (N:News X.G X.L s.heap news) (hm:(p.1,o) ∈ news) (up:UpdF p.1 o news g)
  (back:∀c' o' h',CR U ρ c' p [(p.1,o')]->Fr X.G X.L h' X.m->News X.G X.L h' (g o')->AL U X ρ (H.set i c') h'):eZ U X ρ H s i kvs p
theorem FS.dAt(x:AL U X ρ H s.heap){i:Nat}{kvs:List (Nat×V)}{p:Addr×Addr}(ep:ρ[i]? =some p)(hc:H[i]? =some (.dictW kvs)):eZ U X ρ H s i kvs p:=by
 obtain⟨a,o,news,g,e1,lo,⟨o₂,es,e2,hd,vd⟩,N,hm,up,back⟩:=FS.oneCell x hc (fun J J=>⟨Af.noConfusion,Af.noConfusion⟩)
 cases e2
 cases ep.symm.trans e1
 exact⟨o,es,news,g,lo,hd,vd,N,hm,up,back⟩
theorem GC{K:Type}[DecidableEq K]{pr:Program}{w:World}{knd:PySem.KeyKind pr w K}{o:Obj}{es:List (K×Value)}(h:o.IsDictOf knd es):(es.map (·.1)).Nodup:=by
 obtain⟨_,_,_,_,_,_,hn⟩:=h
 exact hn
theorem L9(x:AL U X ρ H s.heap){o k v:V}{o' k' v':Value}(vo:Aq U ρ o o')(vk:Aq U ρ k k')(vv:Aq U ρ v v'){Q:Unit->Shared->Prop}(hp:Ae (fun J J J=>True) U xc X ρ (Dg o k v H) Q E s):
  wpAny (model U.prog U.w) A (setItem o' k' v') Q E s:=by
 refine Fz (P:=fun o=>Aq U ρ o o'->_) hp (fun i c hc hp vo=> ?_) vo
 refine vo.refE (P:=fun y=>wpAny _ _ (setItem y _ _) _ _ _) fun p ep=> ?_
 cases c with
 | list xs=>
  refine E6 (P:=fun k=>Aq U ρ k k'->_) hp (fun k hp vk=>CA hp fun hk hp=> ?_) vk
  exact vk.intE (P:=fun y=>wpAny _ _ (setItem _ y _) _ _ _) fun t=>KJ x hc ep vv hk.1 hk.2.1 hk.2.2 fun h' tk x'=>hp ρ () h' tk (BF _) x' trivial
 | dictW kvs=>
  refine HC (P:=fun k=>Aq U ρ k k'->_) hp (fun k hp vk=>CA hp fun hk hp=> ?_) vk
  refine vk.wE (P:=fun y=>wpAny _ _ (setItem _ y _) _ _ _) fun t=> ?_
  obtain⟨o,es,news,g,lo,hd,vd,N,hm,up,back⟩:=x.dAt ep hc
  exact kda_set x.fr N up hd (strKind_is _ _ _ _) (by rw[vd.length];exact Ys hk) fun h' o' F' N' hd'=>hp ρ () h' _ (BF _) (back (.dictW (EX k v kvs)) o' h' ⟨o',_,rfl,hd',F5.stored vv vd (GC hd)⟩ F' N') trivial
 | dictI kvs=>
  refine E6 (P:=fun k=>Aq U ρ k k'->_) hp (fun k hp vk=>CA hp fun hk hp=> ?_) vk
  refine vk.intE (P:=fun y=>wpAny _ _ (setItem _ y _) _ _ _) fun t=> ?_
  obtain⟨a,o,news,g,e1,lo,⟨o₂,es,e2,hd,vd⟩,N,hm,up,back⟩:=FS.oneCell x hc (fun J J=>⟨Af.noConfusion,Af.noConfusion⟩)
  cases e2
  cases ep.symm.trans e1
  exact kda_set x.fr N up hd (intKind_is _ _ _ _) (by rw[vd.length];exact Ys hk.1) fun h' o' F' N' hd'=>hp ρ () h' _ (BF _) (back (.dictI (LT k v kvs)) o' h' ⟨o',_,rfl,hd',Mg.stored vv vd (GC hd)⟩ F' N') trivial
 | _=>exact hp.elim
theorem F5.getD{sa:Addr}{k:Nat}{kvs:List (Nat×V)}{es:List (Str×Value)}{d:V}{d':Value}(vd:F5 sa ρ kvs es)(h:VR sa ρ d d'):VR sa ρ ((Dr k kvs).getD d) ((valueAt es (wd k)).getD d'):=by
 have lk:=vd.look (k:=k)
 cases q:Dr k kvs with
 | none=>rw[lk.1 q];exact h
 | some v=>obtain⟨y,e,hy⟩:=lk.2 v q;rw[e];exact hy
theorem S6(x:AL U X ρ H s.heap){o k:V}{o' k':Value}(vo:Aq U ρ o o')(vk:Aq U ρ k k')(hp:Ae (Aq U) U xc X ρ (PS o k .none H) Q E s):
  wpAny (model U.prog U.w) A (call (.builtin "dict.get") [o',k']) Q E s:=by
 refine Bx (P:=fun o=>Aq U ρ o o'->_) hp (fun i c hc hp vo=> ?_) vo
 refine Sg (P:=fun c=>H[i]? =some c->_) hp (fun kvs hp hc=> ?_) hc
 refine HC (P:=fun k=>Aq U ρ k k'->_) hp (fun k hp vk=> ?_) vk
 refine vo.refE (P:=fun y=>wpAny _ _ (call _ [y,_]) _ _ _) fun p ep=>vk.wE (P:=fun y=>wpAny _ _ (call _ [_,y]) _ _ _) fun t=> ?_
 obtain⟨o,es,news,g,lo,hd,vd,N,hm,up,back⟩:=x.dAt ep hc
 exact kdg_get1 N hm hd (Dw lo) (strKind_is _ _ _ _) _ rfl (AT hp x (vd.getD rfl))
theorem SP(x:AL U X ρ H s.heap){o k d:V}{o' k' d':Value}(vo:Aq U ρ o o')(vk:Aq U ρ k k')(vd':Aq U ρ d d')(hp:Ae (Aq U) U xc X ρ (PS o k d H) Q E s):
  wpAny (model U.prog U.w) A (call (.builtin "dict.get") [o',k',d']) Q E s:=by
 refine Bx (P:=fun o=>Aq U ρ o o'->_) hp (fun i c hc hp vo=> ?_) vo
 refine Sg (P:=fun c=>H[i]? =some c->_) hp (fun kvs hp hc=> ?_) hc
 refine HC (P:=fun k=>Aq U ρ k k'->_) hp (fun k hp vk=> ?_) vk
 refine vo.refE (P:=fun y=>wpAny _ _ (call _ [y,_,_]) _ _ _) fun p ep=>vk.wE (P:=fun y=>wpAny _ _ (call _ [_,y,_]) _ _ _) fun t=> ?_
 obtain⟨o,es,news,g,lo,hd,vd,N,hm,up,back⟩:=x.dAt ep hc
 exact kdg_get2 N hm hd (Dw lo) (strKind_is _ _ _ _) _ rfl (AT hp x (vd.getD vd'))
theorem TJ{k:Nat}(h:k<=BR):k.log2 < 1920:=by
 by_cases z:k=0
 .subst z;decide
 .refine (Nat.log2_lt z).mpr (Nat.lt_of_le_of_lt h ?_)
  have:(2:Nat) ^ 17<=2 ^ 1920:=Nat.pow_le_pow_right (by decide) (by decide)
  exact Nat.lt_of_lt_of_le (by decide) this
theorem Vm(x:AL U X ρ H s.heap){v:V}{v':Value}(vv:Aq U ρ v v')(hp:Ae (Aq U) U xc X ρ (Ve v H) Q E s):
  wpAny (model U.prog U.w) A (call (.type "str") [v']) Q E s:=by
 refine E6 (P:=fun v=>Aq U ρ v v'->_) hp (fun i hp vv=>CA hp fun hk hp=> ?_) vv
 exact vv.intE (P:=fun y=>wpAny _ _ (call _ [y]) _ _ _) fun t=>P.str_of_int (TJ (by have:=hk.2;clear hp;exact i2 ‹_›)) (AT hp x ⟨_,rfl⟩)
theorem Jb{e:Value->Bool}{k:Nat}:∀{xs:List V} {vs:List Value} {i:Nat},vs.map e=xs.map (J9 k)->xs.findIdx? (J9 k)=some i->
  ∃h:i < vs.length,e vs[i]=true/\∀m (hm:m < vs.length),m < i->e vs[m]=false
 | [],_,_,_,h=>by simp at h
 | _::_,[],_,h,_=>by simp at h
 | x::xs,v::vs,i,h,hf=>by
  simp only [List.map_cons,List.cons.injEq]at h
  rw[List.findIdx?_cons]at hf
  by_cases q:J9 k x=true
  .rw [if_pos q]at hf
   cases hf
   exact⟨Nat.zero_lt_succ _,h.1.trans q,fun m J hm=>absurd hm (Nat.not_lt_zero _)⟩
  .rw [if_neg q]at hf
   cases hh:xs.findIdx? (J9 k)with
   | none=>rw[hh]at hf;cases hf
   | some j=>
    rw[hh]at hf
    cases hf
    obtain⟨h1,h2,h3⟩:=Jb h.2 hh
    refine⟨Nat.succ_lt_succ h1,h2,fun m hm Ef=> ?_⟩
    cases m with
    | zero=>exact h.1.trans (Bool.eq_false_iff.mpr q)
    | succ m=>exact h3 m (Nat.lt_of_succ_lt_succ hm) (Nat.lt_of_succ_lt_succ Ef)
theorem I5{M:Model}{β:Type}{n:Nat}(f:Nat->β->Sem (ForInStep β))(I:Nat->β->Shared->Prop)(Q:β->Shared->Prop)
  (turn:∀i b s,i < n->I i b s->wpAny M A (f i b) (fun r s'=>match r with | .yield b'=>I (i+1) b' s' | .done b'=>Q b' s') E s)
  (fin:∀b s,I n b s->Q b s):∀(k i:Nat) (b:β) (s:Shared),i+k=n->I i b s->wpAny M A (forIn (List.range' i k 1) b f) Q E s
 | 0,i,b,s,e,h=>by
  rw[List.range'_zero,List.forIn_nil]
  exact BE (fin _ _ (by rw[<-e];exact h))
 | k+1,i,b,s,e,h=>by
  rw[List.range'_succ,List.forIn_cons]
  refine As (wpAny_mono (turn i b s (by exact cV ‹_›) h) (fun r s' hr=> ?_) fun J J h'=>h')
  cases r with
  | done b'=>exact BE hr
  | yield b'=>exact I5 f I Q turn fin k (i+1) b' s' (by exact bO ‹_›) hr
theorem Hq{M:Model}{β:Type}{n:Nat}(f:Nat->β->Sem (ForInStep β))(I:Nat->β->Shared->Prop)(Q:β->Shared->Prop)
  (turn:∀i b s,i < n->I i b s->wpAny M A (f i b) (fun r s'=>match r with | .yield b'=>I (i+1) b' s' | .done b'=>Q b' s') E s)
  (fin:∀b s,I n b s->Q b s) (b:β) (h:I 0 b s):wpAny M A (forIn [:n] b f) Q E s:=by
 rw[Std.Legacy.Range.forIn_eq_forIn_range']
 have:=I5 (A:=A) (E:=E) f I Q turn fin n 0 b s (by exact Nat.zero_add _) h
 simpa [Std.Legacy.Range.size]using this
theorem JC(l:Addr)(items:Array Value)(n:Nat)(dd:Option Addr)(sl:Array (Option Value))(x:Value)(e:Value->Bool)(j:Nat)(hj:j < items.size)
  (hit:e items[j]=true) (hno:∀m (hm:m < items.size),m < j->e items[m]=false):
  Meets (Builtin.«tuple.index» ⟨[.ref l,x],[]⟩)
   (fun A R s=>s.heap.get? l=some { cls:= .type "tuple",dict:=dd,data:= .seq items n,slots:=sl}/\(∀y,y ∈ items->EqAt A.in1 s y x (e y))/\R (.ok (.ret (.int j s.toks))) { s with toks:=s.toks+1}):=by
 intro prog w A R s h
 obtain⟨hp,g,d,tk,os⟩:=s;obtain⟨hl,he,h⟩:=h
 wp_walk using wpAny_loadPart' hl,Hq _ (fun i b s'=>b.1=none/\s'=⟨hp,g,d,tk,os⟩/\i<=j) _
 case turn=>
  rintro i b s' hin ⟨hb,rfl,hij⟩
  have Ef:i < items.size:=by exact Nat.lt_of_le_of_lt ‹_› ‹_›
  rw[Array.getElem?_eq_getElem Ef]
  refine As (he _ (Array.getElem_mem Ef) prog w _ _ ?_)
  by_cases q:i=j
  .subst q
   rw[hit]
   wp_walk
   exact h
  .rw [hno i Ef (by exact Nat.lt_of_le_of_ne ‹_› ‹_›)]
   wp_walk
   exact⟨rfl,rfl,by exact Nat.lt_of_le_of_ne ‹_› ‹_›⟩
 case fin=>
  rintro b s' ⟨hb,rfl,hij⟩
  exact absurd hj (by exact fun e=>e9 e hij)
 case h=>exact⟨rfl,rfl,Nat.zero_le _⟩
theorem XO{n m:Nat}(h:n<=BR)(hm:m < n):(m:Int) < 2 ^ 63 - 1:=by
 have e:(2:Int) ^ 63 - 1=9223372036854775807:=by decide
 rw[e];unfold BR at h;exact g2 h hm (by rfl)
theorem Lw{xs:List V}{vs:List Value}{k j:Nat}{t:Tok}(hv:C3 U.sa ρ xs vs)(hw:xs.all wn=true)(hf:xs.findIdx? (J9 k)=some j):(∀y ∈ vs.toArray,EqAt A.in1 s y (.str (wd k) t) (isStrOf (wd k) y))/\∃h:j < vs.toArray.size,isStrOf (wd k) vs.toArray[j]=true/\∀m (hm:m < vs.toArray.size),m < j->isStrOf (wd k) vs.toArray[m]=false:=by
 obtain⟨i1,i2⟩:=Gr (k:=k) (t:=t) (A:=A.in1) (s:=s) hv hw
 exact⟨fun y hy=>i1 y (List.mem_toArray.mp hy),Jb (e:=isStrOf (wd k)) i2 hf⟩
theorem Pv(x:AL U X ρ H s.heap){tp:Bool}{o k:V}{o' k':Value}(vo:Aq U ρ o o')(vk:Aq U ρ k k')(hp:Ae (Aq U) U xc X ρ (Nk tp o k H) Q E s):
  wpAny (model U.prog U.w) A (call (.builtin (if tp then "tuple.index" else "list.index")) [o',k']) Q E s:=by
 refine Bx (P:=fun o=>Aq U ρ o o'->_) hp (fun i c hc hp vo=> ?_) vo
 refine vo.refE (P:=fun y=>wpAny _ _ (call _ [y,_]) _ _ _) fun p ep=> ?_
 cases tp with
 | false=>
  refine EK (P:=fun c=>H[i]? =some c->_) hp (fun xs hp hc=> ?_) hc
  refine HC (P:=fun k=>Aq U ρ k k'->_) hp (fun k hp vk=>CA hp fun hw hp=>Dk hp fun j hf hp=> ?_) vk
  refine vk.wE (P:=fun y=>wpAny _ _ (call _ [_,y]) _ _ _) fun t=> ?_
  obtain⟨a,vs,c,news,e1,Ec,N,hm,_⟩:=x.listC hc
  cases ep.symm.trans e1
  obtain⟨i1,h1,h2,h3⟩:=Lw (t:=t) (A:=A) (s:=s) Ec hw.1 hf
  exact call_meets PySem.F.slot_list_index ⟨_,(N _ hm).1,rfl⟩ PySem.F.entry_list_index (PySem.F.args_list_index_2 _ _)
   (list_indexAt p.1 vs.toArray c none #[] _ (isStrOf (wd k)) j h1 (XO hw.2 (Ec.length▸h1)) h2 h3)
   ⟨(N _ hm).1,i1,(hp ρ (.int j s.toks) s.heap (s.toks+1) (BF _) x ⟨_,rfl⟩:Q (.int j s.toks) { s with toks:=s.toks+1})⟩
 | true=>
  refine aY (P:=fun c=>H[i]? =some c->_) hp (fun xs hp hc=> ?_) hc
  refine HC (P:=fun k=>Aq U ρ k k'->_) hp (fun k hp vk=>CA hp fun hw hp=>Dk hp fun j hf hp=> ?_) vk
  refine vk.wE (P:=fun y=>wpAny _ _ (call _ [_,y]) _ _ _) fun t=> ?_
  obtain⟨ad,nn,pre,post,e1,⟨vs,rfl,Ec⟩,N,_⟩:=x.cell hc
  cases ep.symm.trans e1
  obtain⟨i1,h1,h2,h3⟩:=Lw (t:=t) (A:=A) (s:=s) Ec hw.1 hf
  have hg:=N.get (L8 _ _ _)
  exact call_meets PySem.F.slot_tuple_index ⟨_,hg,rfl⟩ PySem.F.entry_tuple_index (PySem.F.args_tuple_index_2 _ _)
   (JC p.1 vs.toArray 0 none #[] _ (isStrOf (wd k)) j h1 h2 h3)
   ⟨hg,i1,(hp ρ (.int j s.toks) s.heap (s.toks+1) (BF _) x ⟨_,rfl⟩:Q (.int j s.toks) { s with toks:=s.toks+1})⟩
theorem Nq{bg:Fh}(ok:Tf bg)(x:AL U X ρ H s.heap){o k:V}{o' k':Value}(vo:Aq U ρ o o')(vk:Aq U ρ k k')(hp:Ae (Aq U) U xc X ρ (Kr bg o k H) Q E s):
  wpAny (model U.prog U.w) A (call (.builtin "str.startswith") [o',k']) Q E s:=by
 refine HC (P:=fun o=>Aq U ρ o o'->_) hp (fun i hp vo=>HC (P:=fun k=>Aq U ρ k k'->_) hp (fun j hp vk=>Dk hp fun b h hp=> ?_) vk) vo
 exact vo.wE (P:=fun y=>wpAny _ _ (call _ [y,_]) _ _ _) fun t=>vk.wE (P:=fun y=>wpAny _ _ (call _ [_,y]) _ _ _) fun u=>SC.startswith (AT (tk:=s.toks) hp x (by rw[ok.ok i j b h];rfl))
theorem VO{sa:Addr}{ρ:A9}{vs:List Value}{ns:List Int}(h:IntsAre vs ns):C3 sa ρ (ns.map .int) vs:=by
 induction h with
 | nil=>trivial
 | cons i t h ih=>exact⟨⟨t,rfl⟩,ih⟩
noncomputable def J3(Q:Value->Shared->Prop)(o vl vu:Value)(s:Shared):Prop:=∃l items lo hi,o=.ref l/\s.heap.IsList l items/\items.size<=sizeLine/\IsPart vl lo/\IsPart vu hi/\
 Q (.ref (s.heap.objs.size+1)) { s with heap:=(s.heap.push { cls:= .type "slice",data:= .fields #[vl,vu,.none]}).push { cls:= .type "list",data:= .seq (slicePick items lo hi none)}}
theorem I8(gf:GF U X.G)(x:AL U X ρ H s.heap){vl vu:Value}{xs:List V}{ws:List Value}{items:Array Value}(e:items=ws.toArray)(v:C3 U.sa ρ xs ws)(hp:Ae (Aq U) U xc X ρ (alloc (.list xs) H) Q E s):
  Q (.ref (s.heap.objs.size+1)) { s with heap:=(s.heap.push { cls:= .type "slice",data:= .fields #[vl,vu,.none]}).push { cls:= .type "list",data:= .seq items}}:=by
 subst e
 have x':AL U X ρ H ({ s with heap:=s.heap.push { cls:= .type "slice",data:= .fields #[vl,vu,.none]}}:Shared).heap:=FS.keeps x fun b o e=>Ds _ e
 obtain⟨l,N,_,_,k⟩:=FS.made (xc:=xc) (Q:=Q) (E:=E) (s:={ s with heap:=s.heap.push { cls:= .type "slice",data:= .fields #[vl,vu,.none]}}) gf x'
 have:=k (c:= .list xs) (o:={ cls:= .type "list",data:= .seq ws.toArray}) (tk:=s.toks) hp (x'.fr.push _) (N.push x'.fr _) ⟨ws,0,rfl,v.mono (List.prefix_append ..)⟩
 rw[show({ s with heap:=s.heap.push { cls:= .type "slice",data:= .fields #[vl,vu,.none]}}:Shared).heap.objs.size=s.heap.objs.size+1 from Heap.size_push ..]at this
 exact this
theorem PB(gf:GF U X.G)(x:AL U X ρ H s.heap){o k:V}{o' k':Value}(vo:Aq U ρ o o')(vk:Aq U ρ k k')(hp:Ae (Aq U) U xc X ρ (cutTo U.Aa o k H) Q E s):J3 Q o' .none k' s:=by
 refine E6 (P:=fun k=>Aq U ρ k k'->_) hp (fun k hp vk=>vk.intE (P:=fun y=>J3 Q o' .none y s) fun t=> ?_) vk
 cases o with
 | ref l=>
  refine Dk (o:=H[l]?) hp fun c hc hp=> ?_
  refine EK (P:=fun c=>H[l]? =some c->_) hp (fun xs hp hc=>CA hp fun hk hp=> ?_) hc
  refine vo.refE (P:=fun y=>J3 Q y _ _ s) fun p ep=> ?_
  obtain⟨vs,il,Ec,_⟩:=x.pL ep hc
  have e:=slicePick_upto' vs.toArray k.toNat
  rw[Int.toNat_of_nonneg hk.1]at e
  exact⟨p.1,vs.toArray,none,some k,rfl,il,by rw[List.size_toArray,Ec.length];exact BY hk.2.2,.none,.int k t,I8 gf x (ws:=vs.take k.toNat) e (Ec.take _) hp⟩
 | ext=>
  cases vo
  refine CA hp fun hk hp=> ?_
  cases hk
  obtain⟨vs,il,iv,hl⟩:=gf.ext
  refine⟨U.sa,vs.toArray,none,some 40,rfl,il.at (fun o e=>x.fr.keep _ o e),by rw[List.size_toArray];exact hl,.none,.int 40 t,I8 gf x (ws:=vs.take 40) (slicePick_upto' vs.toArray 40) ?_ hp⟩
  rw[List.map_take];exact(VO iv).take 40
 | _=>exact hp.elim
theorem Lz(gf:GF U X.G)(x:AL U X ρ H s.heap){o k:V}{o' k':Value}(vo:Aq U ρ o o')(vk:Aq U ρ k k')(hp:Ae (Aq U) U xc X ρ (cutFrom o k H) Q E s):J3 Q o' k' .none s:=by
 refine E6 (P:=fun k=>Aq U ρ k k'->_) hp (fun k hp vk=>vk.intE (P:=fun y=>J3 Q o' y .none s) fun t=> ?_) vk
 refine Bx (P:=fun o=>Aq U ρ o o'->_) hp (fun i c hc hp vo=> ?_) vo
 refine EK (P:=fun c=>H[i]? =some c->_) hp (fun xs hp hc=>CA hp fun hk hp=> ?_) hc
 refine vo.refE (P:=fun y=>J3 Q y _ _ s) fun p ep=> ?_
 obtain⟨vs,il,Ec,_⟩:=x.pL ep hc
 have e:=slicePick_from' vs.toArray k.toNat
 rw[Int.toNat_of_nonneg hk.1]at e
 exact⟨p.1,vs.toArray,some k,none,rfl,il,by rw[List.size_toArray,Ec.length];exact BY hk.2.2,.int k t,.none,I8 gf x (ws:=vs.drop k.toNat) e (Ec.drop _) hp⟩
end
variable{U:Un}{xc:Value}{X X':Fx}{ρ ρ' ρ0:A9}{H:MH}{h h':Heap}{s:Shared}{A:Around}{E Q:Value->Shared->Prop}{Ad env:PySem.Env}{n:Nat}{ns:Dm}{Γ:List Str}{vs:Mine.Env}{C:Ja Fn}{np pos apos:Pos}{fa:Fn->Addr}
noncomputable abbrev Dm:=List (Str×NameKind)
structure AJ(X:Fx)(Ad env:PySem.Env)(ns:Dm):Prop where
 names:env.scope.names=ns
 kind:env.scope.kind=.function
 glo:env.globals=mainGlobals
 blt:env.builtins=builtinsNs
 frm:env.frame=some X.L
 hc:∀y,env.kindOf y=some .cell\/env.kindOf y=some .free->(env.cells.lookup y).isSome=true
noncomputable def GL(X:Fx)(env:PySem.Env)(x:Str)(y:Value):Prop:=
 (env.kindOf x=some .local/\env.locals=X.L/\X.m x=some y)\/
 ((env.kindOf x=some .cell\/env.kindOf x=some .free)/\∃c o,env.cells.lookup x=some c/\(c,o) ∈ X.px/\o.data=.cell (some y))\/
 (env.kindOf x=some .local/\∃o m,(env.locals,o) ∈ X.px/\(∀h:Heap,h.get? env.locals=some o->h.Ns env.locals m)/\m x=some y)
noncomputable def bF:Option NameKind->Bool
 | some .local | some .cell | some .free=>true
 | _=>false
structure EO(U:Un)(X:Fx)(ρ:A9)(env:PySem.Env)(Γ:List Str)(vs:Mine.Env):Prop where
 len:vs.length=Γ.length
 get:∀(i:Nat) (v:V) (x:Str),vs[i]? =some (some v)->Γ[i]? =some x->bF (env.kindOf x)=true->∃y,Aq U ρ v y/\GL X env x y
theorem EO.mono{U:Un}{X:Fx}{ρ ρ':A9}{env:PySem.Env}{Γ:List Str}{vs:Mine.Env}(h:ρ <+:ρ')(e:EO U X ρ env Γ vs):EO U X ρ' env Γ vs:=
 ⟨e.len,fun i v x q r t=>let⟨y,b,c⟩:=e.get i v x q r t;⟨y,b.mono h,c⟩⟩
noncomputable def DZ(ns:Dm)(x:Str):Bool:=bF (ns.lookup x)&&(!(x==("__debug__":Str))&& !(x==("__classdict__":Str)))
noncomputable def Dl(ns:Dm)(x:Str):Bool:=ns.lookup x==some .globalImplicit&& !(x==("__debug__":Str))
theorem FS.news(x:AL U X ρ H s.heap):∃l,News X.G X.L s.heap l/\∀p ∈ X.px,p ∈ l:=by
 obtain⟨l,N,_,sub,_⟩:=FS.all x
 exact⟨l,N,sub⟩
theorem IT(ek:AJ X Ad env ns)(x:AL U X ρ H s.heap){nm:Str}{y:Value}{pos:Pos}(hn:DZ ns nm=true)(l:GL X env nm y)(h:Q y s):
  wpAny (model U.prog U.w) A (eval (.Name nm pos) env) Q E s:=by
 unfold DZ at hn
 rw[DN,DN]at hn
 have hd:(nm==("__debug__":Str))=false:=by simpa using hn.2.1
 have hc:(nm==("__classdict__":Str))=false:=by simpa using hn.2.2
 refine wpAny_Name ?_ hd
 obtain⟨N,hN,sub⟩:=FS.news x
 rcases l with⟨hk,hl,hm⟩ | ⟨hk,c,o,hc',hmem,hd'⟩ | ⟨hk,o,m,hmem,Dn,hm⟩
 .exact wpAny_loadName_local ek.kind hk (by rw[hl];exact x.fr.ns) hm h
 .have hcell:s.heap.IsCell c (some y):=⟨o,hN.get (sub _ hmem),hd'⟩
  rcases hk with hk | hk
  .exact wpAny_loadName_cell ek.kind hk hc' hcell h
  .exact wpAny_loadName_free ek.kind hk hc' hcell h hc
 .exact wpAny_loadName_local ek.kind hk (Dn _ (hN.get (sub _ hmem))) hm h
theorem Dy(ek:AJ X Ad env ns)(gf:GF U X.G)(x:AL U X ρ H s.heap){nm:Str}{v:Value}{pos:Pos}(hn:Dl ns nm=true)(e:nsIn U.K mainGlobals nm=some (some v))(h:Q v s):
  wpAny (model U.prog U.w) A (eval (.Name nm pos) env) Q E s:=by
 unfold Dl at hn
 rw[DN]at hn
 exact nameG_K x.fr gf.K (topRead_of gf.T) e h ek.glo ek.kind (by unfold PySem.Env.kindOf;rw[ek.names];exact beq_iff_eq.mp hn.1) (by simpa using hn.2)
theorem BM(ek:AJ X Ad env ns)(gf:GF U X.G)(x:AL U X ρ H s.heap){nm:Str}{v:Value}{pos:Pos}(hn:Dl ns nm=true)(e:nsIn U.K mainGlobals nm=some none)(hv:bootBuiltins nm=some v)(hn':nm≠"__name__")(h:Q v s):
  wpAny (model U.prog U.w) A (eval (.Name nm pos) env) Q E s:=by
 unfold Dl at hn
 rw[DN]at hn
 refine Name_function_global ek.kind (by unfold PySem.Env.kindOf;rw[ek.names];exact beq_iff_eq.mp hn.1) ?_ (by simpa using hn.2)
 refine loadGlobal_builtin (by rw[ek.glo];exact gf.T.g.keeps x.fr.keep) (mg_none_of gf.K gf.T.g e) (by rw[ek.blt];exact gf.T.b.keeps x.fr.keep) ((gf.T.builtins nm hn').trans hv) h
noncomputable def SE(U:Un)(xc:Value)(C:Ja Fn)(A:Around)(X:Fx)(env:PySem.Env)(Γ:List Str)(m:ME Fn)(e:Expr):Prop:=
 ∀ρ H s vs Q E,AL U X ρ H s.heap->EO U X ρ env Γ vs->Ae (Aq U) U xc X ρ (Ac C m vs H) Q E s->wpAny (model U.prog U.w) A (eval e env) Q E s
noncomputable def ST(U:Un)(xc:Value)(C:Ja Fn)(A:Around)(X:Fx)(env:PySem.Env)(Γ:List Str)(m:ME Fn)(e:Expr):Prop:=
 ∀ρ H s vs Q E,AL U X ρ H s.heap->EO U X ρ env Γ vs->Ae (fun J (t t':Bool)=>t'=t) U xc X ρ (bnd (Ac C m vs) AG H) Q E s->wpAny (model U.prog U.w) A (isTrue e env (eval e env)) Q E s
theorem QG(ek:AJ X Ad env ns){i:Nat}{nm:Str}{pos:Pos}(h1:Γ[i]? =some nm)(h2:DZ ns nm=true):SE U xc C A X env Γ (.O i) (.Name nm pos):=by
 intro ρ H s vs Q E x eo hp
 obtain⟨v,ev,hp⟩:=RJ hp
 have:vs[i]? =some (some v):=by
  cases h:vs[i]? with
  | none=>rw[h]at ev;cases ev
  | some o=>rw[h]at ev;cases o with | none=>cases ev | some o=>cases ev;rfl
 obtain⟨y,hy,l⟩:=eo.get i v nm this h1 (by unfold PySem.Env.kindOf;rw[ek.names];unfold DZ at h2;exact(Bool.and_eq_true_iff.mp h2).1)
 exact IT ek x h2 l (Cz (tk:=s.toks) hp x hy)
noncomputable def fN(v:V):Option Const:= @V.casesOn (fun J=>Option Const) v (some .none) (fun b=>some (.bool b)) (fun i=>some (.int i)) (fun k=>some (.str (wd k))) (fun J=>none) (fun J=>none) none
noncomputable def Wp(v:V)(c:Const):Bool:=fN v==some c
theorem S7{v:V}{c:Const}{k:Nat}{pos:Pos}(h:Wp v c=true):SE U xc C A X env Γ (.cst v) (.Constant c k pos):=by
 intro ρ H s vs Q E x eo hp
 have e:fN v=some c:=eq_of_beq h
 clear h
 cases v with
 | none=>cases e;exact wpAny_Constant_none (AT (tk:=s.toks) hp x rfl)
 | bool b=>cases e;exact wpAny_Constant_bool (AT (tk:=s.toks) hp x rfl)
 | int i=>cases e;exact wpAny_Constant_int (AT hp x ⟨_,rfl⟩)
 | w k=>cases e;exact wpAny_Constant_str (AT hp x ⟨_,rfl⟩)
 | _=>exact nomatch e
theorem T8{α:Type}{M:Model}{A:Around}{t:Sem α}{Q:α->Shared->Prop}{E:Value->Shared->Prop}{s:Shared}(h:∀(Q':α->Shared->Prop) (E':Value->Shared->Prop),(∀a s,Q a s->Q' a s)->(∀e s,E e s->E' e s)->wpAny M A t Q' E' s):wpAny M A t Q E s:=h Q E (fun J J h=>h) (fun J J h=>h)
noncomputable def aG(e:Expr):Bool:= @Expr.casesOn (fun J=>Bool) e (fun J J J=>false) (fun J J J=>false) (fun J J J J=>false) (fun J J J=>false) (fun J J J J=>false) (fun J J J J=>false) (fun J J J=>false) (fun J J J=>false) (fun J J J J=>false) (fun J J J J=>false) (fun J J J J J=>false) (fun J J J J=>false) (fun J J=>false) (fun J J=>false) (fun J J=>false) (fun J J J J=>false) (fun J J J J=>false) (fun J J J J=>false) (fun J J=>false) (fun J J J=>false) (fun J J J=>false) (fun J J J=>false) (fun J J=>false) (fun J J=>true) (fun J J=>false) (fun J J J=>false) (fun J J J J=>false)
noncomputable def A0(e:Expr):Bool:= @Expr.casesOn (fun J=>Bool) e (fun J J J=>true) (fun J J J=>true) (fun J J J J=>true) (fun J J J=>true) (fun J J J J=>true) (fun J J J J=>true) (fun J J J=>true) (fun J J J=>true) (fun J J J J=>true) (fun J J J J=>true) (fun J J J J J=>true) (fun J J J J=>true) (fun J J=>true) (fun J J=>true) (fun J J=>true) (fun J J J J=>true) (fun f as ks J=> !(aG f&&(as.isEmpty&&ks.isEmpty))) (fun J J J J=>true) (fun J J=>true) (fun J J J=>true) (fun J J J=>true) (fun J J J=>true) (fun J J=>true) (fun J J=>true) (fun J J=>true) (fun J J J=>true) (fun J J J J=>true)
theorem C4{o:Expr}{a:Str}{env:PySem.Env}{whole:Sem Value}(h:A0 o=true):attributeBase o a env whole=whole:=by
 refine Eq.symm (WO h ?_);clear h
 cases o with
 | Call f as ks p=>
  cases ks with
  | nil=>cases as with
   | nil=>cases f<;>first | exact rfl | exact True.intro
   | cons=>cases f<;>exact rfl
  | cons=>cases as<;>cases f<;>exact rfl
 | _=>exact rfl
theorem Vn(uf:UF U)(cx:Cx U A X Ad n){m:ME Fn}{e:Expr}{a:Nat}{pos:Pos}(ha:a ∈ CV)(hb:A0 e=true)(h:SE U xc C A X env Γ m e):SE U xc C A X env Γ (.attr m a) (.Attribute e (wd a) pos):=by
 intro ρ H s vs Q E x eo hp
 refine Attribute_any_ (h ρ H s vs _ E x eo (hp.bnd (rel1:=Aq U) fun v H1 ρ1 v' h1 Bk J l1 x1 r1 AS=> ?_)) ?_
 .exact LZ uf cx x1 ha r1 AS
 .show (do let o <-attributeBase e (wd a) env (eval e env);_:Sem Value)=_
  rw[C4 hb]
theorem Xw{m i:ME Fn}{e sl:Expr}{pos:Pos}(h:SE U xc C A X env Γ m e)(h2:SE U xc C A X env Γ i sl):SE U xc C A X env Γ (.idx m i) (.Subscript e sl pos):=by
 intro ρ H s vs Q E x eo hp
 refine Subscript_ (h ρ H s vs _ E x eo (hp.bnd (rel1:=Aq U) fun v H1 ρ1 v' h1 Bk J l1 x1 r1 AS=> ?_))
 refine h2 ρ1 H1 _ vs _ E x1 (eo.mono l1) (AS.bnd (rel1:=Aq U) fun k H2 ρ2 k' h2 tk2 J l2 x2 r2 Cb=> ?_)
 exact TF x2 (r1.mono l2) r2 Cb
theorem W3(cx:Cx U A X Ad n){a b:ME Fn}{l r:Expr}{op:U3}{pos:Pos}(h:SE U xc C A X env Γ a l)(h2:SE U xc C A X env Γ b r):SE U xc C A X env Γ (.bin op a b) (.BinOp l (QV op) r pos):=by
 intro ρ H s vs Q E x eo hp
 refine wpAny_BinOp (h ρ H s vs _ E x eo (hp.bnd (rel1:=Aq U) fun v H1 ρ1 v' h1 Bk J l1 x1 r1 AS=> ?_))
 refine h2 ρ1 H1 _ vs _ E x1 (eo.mono l1) (AS.bnd (rel1:=Aq U) fun k H2 ρ2 k' h2 tk2 J l2 x2 r2 Cb=> ?_)
 exact TX cx x2 (r1.mono l2) r2 Cb
theorem Yq(cx:Cx U A X Ad n){a b:ME Fn}{l r:Expr}{op:UV}{pos:Pos}(hm:behindInMarks (Mr op) r=false)(h:SE U xc C A X env Γ a l)(h2:SE U xc C A X env Γ b r):
  SE U xc C A X env Γ (.cmp op a b) (.Compare l [Mr op] [r] pos):=by
 intro ρ H s vs Q E x eo hp
 refine wpAny_Compare1 (h ρ H s vs _ E x eo (hp.bnd (rel1:=Aq U) fun v H1 ρ1 v' h1 Bk J l1 x1 r1 AS=> ?_)) hm
 refine h2 ρ1 H1 _ vs _ E x1 (eo.mono l1) (AS.bnd (rel1:=Aq U) fun k H2 ρ2 k' h2 tk2 J l2 x2 r2 Cb=> ?_)
 refine Tx (xc:=xc) cx x2 (r1.mono l2) r2 (Cb.bnd (rel1:=cG) fun t H3 ρ3 t' h3 tk3 J l3 x3 r3 hp3=> ?_)
 exact AT (tk:=tk3) hp3 x3 r3
theorem IQ{m:ME Fn}{ρ:A9}{H:MH}{s:Shared}{vs:Mine.Env}{Q:Bool->Shared->Prop}{E:Value->Shared->Prop}(hp:Ae (fun J (t t':Bool)=>t'=t) U xc X ρ (bnd (Ac C m vs) AG H) Q E s):
  Ae (Aq U) U xc X ρ (Ac C m vs H) (fun v s'=>∃t,v=.bool t/\Q t s') E s:=by
 refine hp.bnd (rel1:=Aq U) fun v H1 ρ1 v' h1 Bk J l1 x1 r1 AS=> ?_
 cases v<;>first | exact AS.elim | skip
 cases r1
 exact⟨_,rfl,AS ρ1 _ h1 Bk (BF _) x1 rfl⟩
noncomputable def Hc(e:Expr):Bool:= @Expr.casesOn (fun J=>Bool) e (fun J J J=>false) (fun J J J=>true) (fun J J J J=>true) (fun o J J=> !(o== .Not)) (fun J J J J=>true) (fun J J J J=>false) (fun J J J=>true) (fun J J J=>true) (fun J J J J=>true) (fun J J J J=>true) (fun J J J J J=>true) (fun J J J J=>true) (fun J J=>true) (fun J J=>true) (fun J J=>true) (fun J J J J=>false) (fun J J J J=>true) (fun J J J J=>true) (fun J J=>true) (fun J J J=>true) (fun J J J=>true) (fun J J J=>true) (fun J J=>true) (fun J J=>true) (fun J J=>true) (fun J J J=>true) (fun J J J J=>true)
theorem Ld{e:Expr}{env:PySem.Env}{whole:Sem Value}(h:Hc e=true):isTrue e env whole=(do
  let v <-whole
  standAt e.pos
  holding [v] (truthy v)):=by
 refine WO h ?_;clear h
 cases e<;>first | exact rfl | exact True.intro | (cases op<;>first | exact rfl | exact True.intro)
theorem S9{m:ME Fn}{e:Expr}(hb:Hc e=true)(h:SE U xc C A X env Γ m e):ST U xc C A X env Γ m e:=by
 intro ρ H s vs Q E x eo hp
 rw[Ld hb]
 refine As (wpAny_mono (h ρ H s vs _ E x eo (IQ hp)) (fun v s' hv=> ?_) fun J J e=>e)
 obtain⟨t,rfl,hq⟩:=hv
 exact As (wpAny_standAt (wpAny_holding (wpAny_truthy_bool hq)))
noncomputable abbrev WX:A9->Bool->Bool->Prop:=fun J t t'=>t'=t
noncomputable def Iz(b:Bool):BoolOp:=if b then .And else .Or
noncomputable def m2(b:Bool)(x y:ME Fn):ME Fn:=if b then .and2 x y else .or2 x y
theorem O2(t:Bool)(a b:ME Fn):Ac C (m2 t a b) vs=bnd (Ac C a vs) fun x=>bnd (AG x) fun u=>if u=t then Ac C b vs else ret x:=by
 cases t
 .show (bnd (Ac C a vs) fun x=>bnd (AG x) fun t=>if t then ret x else Ac C b vs)=_
  refine congrArg _ (funext fun x=>congrArg _ (funext fun u=> ?_))
  cases u<;>rfl
 .rfl
noncomputable def eG(U:Un)(xc:Value)(C:Ja Fn)(A:Around)(X:Fx)(env:PySem.Env)(Γ:List Str)(op:BoolOp)(pos:Pos)(m:ME Fn)(es:List Expr):Prop:=
 ∀ρ H s vs Q E,AL U X ρ H s.heap->EO U X ρ env Γ vs->Ae (Aq U) U xc X ρ (Ac C m vs H) Q E s->wpAny (model U.prog U.w) A (boolOp pos op (evalEach es env)) Q E s
noncomputable def cC(U:Un)(xc:Value)(C:Ja Fn)(A:Around)(X:Fx)(env:PySem.Env)(Γ:List Str)(op:BoolOp)(m:ME Fn)(es:List Expr):Prop:=
 ∀ρ H s vs Q E,AL U X ρ H s.heap->EO U X ρ env Γ vs->Ae WX U xc X ρ (bnd (Ac C m vs) AG H) Q E s->wpAny (model U.prog U.w) A (allTrue op es env) Q E s
theorem O0{op:BoolOp}{pos:Pos}{m:ME Fn}{e:Expr}(h:SE U xc C A X env Γ m e):eG U xc C A X env Γ op pos m [e]:=h
theorem MG{op:BoolOp}{pos:Pos}{m:ME Fn}{es:List Expr}(h:SE U xc C A X env Γ m (.BoolOp op es pos)):eG U xc C A X env Γ op pos m es:=h
theorem MZ{op:BoolOp}{pos:Pos}{m:ME Fn}{es:List Expr}(h:ST U xc C A X env Γ m (.BoolOp op es pos)):cC U xc C A X env Γ op m es:=h
theorem OD{t:Bool}{m:ME Fn}{e:Expr}(h:ST U xc C A X env Γ m e):cC U xc C A X env Γ (Iz t) m [e]:=by
 intro ρ H s vs Q E x eo hp
 show wpAny _ _ (do
  match Iz t,<-isTrue e env (eval e env)with
  | .And,false=>pure false
  | .Or,true=>pure true
  | _,_=>allTrue (Iz t) [] env) _ _ _
 refine As (wpAny_mono (h ρ H s vs _ E x eo hp) (fun v s' hv=> ?_) fun J J e=>e)
 cases t<;>cases v<;>exact BE hv
set_option tactic.hygienic true in
theorem OI{t:Bool}{a b:ME Fn}{x y:Expr}{r:List Expr}{pos:Pos}(h:SE U xc C A X env Γ a x)(h2:eG U xc C A X env Γ (Iz t) pos b (y::r)):
  SE U xc C A X env Γ (m2 t a b) (.BoolOp (Iz t) (x::y::r) pos):=by
 intro ρ H s vs Q E hx eo hp
 rw[O2]at hp
 show wpAny _ _ (do
  let v <-eval x env
  standAt pos
  let u <-holding [v] (truthy v)
  match Iz t,u with
  | .And,false | .Or,true=>pure v
  | _,_=>boolOp pos (Iz t) (evalEach (y::r) env)) _ _ _
 refine As (wpAny_mono (h ρ H s vs _ E hx eo (hp.bnd (rel1:=Aq U) fun v H1 ρ1 v' h1 Bk _ l1 x1 r1 AS=> ?_)) (fun v s' hv=>hv) fun _ _ e=>e)
 cases v<;>first | exact AS.elim | skip
 rename_i u _
 cases r1
 refine As (wpAny_standAt (As (wpAny_holding (wpAny_truthy_bool ?_))))
 replace AS:Ae (Aq U) U xc X ρ1 ((if u=t then Ac C b vs else Mine.ret (V.bool u)) H1) Q E _:=AS
 by_cases q:u=t
 .rw [if_pos q]at AS
  subst q
  have:=h2 ρ1 H1 _ vs _ E x1 (eo.mono l1) AS
  cases u<;>exact this
 .rw [if_neg q]at AS
  have:=Cz (tk:=Bk) AS x1 rfl
  cases t<;>cases u<;>first | exact absurd rfl q | exact BE this
set_option tactic.hygienic true in
theorem SQ(t:Bool)(a b:ME Fn):bnd (Ac C (m2 t a b) vs) AG H=bnd (Ac C a vs) (fun x=>bnd (AG x) fun u=>if u=t then bnd (Ac C b vs) AG else ret u) H:=by
 rw[O2]
 simp only [bnd]
 cases Ac C a vs H with
 | ok x H1=>
  cases x<;>first | rfl | skip
  rename_i u
  show bnd (if u=t then Ac C b vs else Mine.ret (V.bool u)) AG H1=(if u=t then bnd (Ac C b vs) AG else Mine.ret u) H1
  by_cases q:u=t
  .rw [if_pos q,if_pos q]
  .rw [if_neg q,if_neg q];rfl
 | _=>rfl
theorem Po{t:Bool}{a b:ME Fn}{x y:Expr}{r:List Expr}{pos:Pos}(h:ST U xc C A X env Γ a x)(h2:cC U xc C A X env Γ (Iz t) b (y::r)):
  ST U xc C A X env Γ (m2 t a b) (.BoolOp (Iz t) (x::y::r) pos):=by
 intro ρ H s vs Q E hx eo hp
 rw[SQ]at hp
 show wpAny _ _ (do
  match Iz t,<-isTrue x env (eval x env)with
  | .And,false=>pure false
  | .Or,true=>pure true
  | _,_=>allTrue (Iz t) (y::r) env) _ _ _
 have e:bnd (Ac C a vs) (fun x=>bnd (AG x) fun u=>if u=t then bnd (Ac C b vs) AG else ret u) H=bnd (bnd (Ac C a vs) AG) (fun u=>if u=t then bnd (Ac C b vs) AG else ret u) H:=Xy.symm
 rw[e]at hp
 refine As (wpAny_mono (h ρ H s vs _ E hx eo (hp.bnd (rel1:=WX) fun u H1 ρ1 v' h1 Bk J l1 x1 r1 AS=> ?_)) (fun v s' hv=>hv) fun J J e=>e)
 cases(r1)
 by_cases q:u=t
 .rw [if_pos q]at AS
  subst q
  have:=h2 ρ1 H1 _ vs _ E x1 (eo.mono l1) AS
  cases u<;>exact this
 .rw [if_neg q]at AS
  have:=AT (tk:=Bk) AS x1 rfl
  cases t<;>cases u<;>first | exact absurd rfl q | exact BE this
theorem Yo{m:ME Fn}{e:Expr}{pos:Pos}(h:ST U xc C A X env Γ m e):ST U xc C A X env Γ (.not m) (.UnaryOp .Not e pos):=by
 intro ρ H s vs Q E x eo hp
 have e1:bnd (Ac C (.not m) vs) AG H=bnd (bnd (Ac C m vs) AG) (fun t=>ret !t) H:=by
  show bnd (bnd (Ac C m vs) fun x=>bnd (AG x) fun t=>ret (.bool !t)) AG H=_
  simp only [bnd]
  cases Ac C m vs H with
  | ok v H1=>dsimp only;cases AG v H1<;>rfl
  | _=>rfl
 rw[e1]at hp
 show wpAny _ _ (do return !(<-isTrue e env (eval e env))) _ _ _
 refine As (wpAny_mono (h ρ H s vs _ E x eo (hp.bnd (rel1:=WX) fun u H1 ρ1 v' h1 Bk J l1 x1 r1 AS=> ?_)) (fun v s' hv=>BE hv) fun J J e=>e)
 cases r1
 exact AT (tk:=Bk) AS x1 rfl
theorem W0{m:ME Fn}{e:Expr}{pos:Pos}(h:SE U xc C A X env Γ m e):SE U xc C A X env Γ (.not m) (.UnaryOp .Not e pos):=by
 intro ρ H s vs Q E x eo hp
 show wpAny _ _ (do let v <-eval e env;standAt pos;holding [v] (unaryOp .Not v)) _ _ _
 refine As (wpAny_mono (h ρ H s vs _ E x eo (hp.bnd (rel1:=Aq U) fun v H1 ρ1 v' h1 Bk J l1 x1 r1 AS=> ?_)) (fun v s' hv=>hv) fun J J e=>e)
 cases v<;>first | exact AS.elim | skip
 cases r1
 refine As (wpAny_standAt (wpAny_holding ?_))
 unfold unaryOp
 refine wpAny_holding ?_
 simp only [beq_self_eq_true,if_true]
 exact As (wpAny_truthy_bool (BE (AT (tk:=Bk) AS x1 rfl)))
theorem Mn(c a b:ME Fn):Ac C (.ite c a b) vs=bnd (bnd (Ac C c vs) AG) fun t=>if t then Ac C a vs else Ac C b vs:=by
 show(bnd (Ac C c vs) fun x=>bnd (AG x) fun t=>if t then Ac C a vs else Ac C b vs)=_
 funext H
 simp only [bnd]
 cases Ac C c vs H<;>rfl
theorem XD{c a b:ME Fn}{ec ea eb:Expr}{pos:Pos}(hc:ST U xc C A X env Γ c ec)(ha:SE U xc C A X env Γ a ea)(hb:SE U xc C A X env Γ b eb):
  SE U xc C A X env Γ (.ite c a b) (.IfExp ec ea eb pos):=by
 intro ρ H s vs Q E x eo hp
 rw[Mn]at hp
 refine wpAny_IfExp (hc ρ H s vs _ E x eo (hp.bnd (rel1:=WX) fun u H1 ρ1 v' h1 Bk J l1 x1 r1 AS=> ?_))
 cases(r1)
 cases u
 .exact hb ρ1 H1 _ vs _ E x1 (eo.mono l1) AS
 .exact ha ρ1 H1 _ vs _ E x1 (eo.mono l1) AS
theorem XZ{c a b:ME Fn}{ec ea eb:Expr}{pos:Pos}(hc:ST U xc C A X env Γ c ec)(ha:ST U xc C A X env Γ a ea)(hb:ST U xc C A X env Γ b eb):
  ST U xc C A X env Γ (.ite c a b) (.IfExp ec ea eb pos):=by
 intro ρ H s vs Q E x eo hp
 have e1:bnd (Ac C (.ite c a b) vs) AG H=bnd (bnd (Ac C c vs) AG) (fun t=>if t then bnd (Ac C a vs) AG else bnd (Ac C b vs) AG) H:=by
  rw[Mn]
  simp only [bnd]
  cases Ac C c vs H with
  | ok v H1=>dsimp only;cases AG v H1 with
   | ok t H2=>dsimp only;cases t<;>rfl
   | _=>rfl
  | _=>rfl
 rw[e1]at hp
 show wpAny _ _ (do
  if <-isTrue ec env (eval ec env)then isTrue ea env (eval ea env)else isTrue eb env (eval eb env)) _ _ _
 refine As (wpAny_mono (hc ρ H s vs _ E x eo (hp.bnd (rel1:=WX) fun u H1 ρ1 v' h1 Bk J l1 x1 r1 AS=> ?_)) (fun v s' hv=>hv) fun J J e=>e)
 cases(r1)
 cases u
 .exact hb ρ1 H1 _ vs _ E x1 (eo.mono l1) AS
 .exact ha ρ1 H1 _ vs _ E x1 (eo.mono l1) AS
theorem Uz{k j:Nat}{p pos:Pos}:SE U xc C A X env Γ (.usub k) (.UnaryOp .USub (.Constant (.int k) j p) pos):=by
 intro ρ H s vs Q E x eo hp
 show wpAny _ _ (do let v <-eval (.Constant (.int k) j p) env;standAt pos;holding [v] (unaryOp .USub v)) _ _ _
 refine As (wpAny_Constant_int ?_)
 refine As (wpAny_standAt (wpAny_holding ?_))
 exact PyProof.Rows.neg_int (hp ρ _ s.heap _ (BF _) x ⟨_,rfl⟩)
theorem T1(ek:AJ X Ad env ns)(gf:GF U X.G){nm:Str}{t:Tok}{pos:Pos}(hn:Dl ns nm=true)(e:nsIn U.K mainGlobals nm=some (some (.int 1000000 t))):SE U xc C A X env Γ .gmax (.Name nm pos):=by
 intro ρ H s vs Q E x eo hp
 exact Dy ek gf x hn e (AT (tk:=s.toks) hp x ⟨_,rfl⟩)
theorem N6{v:V}{v':Value}(h:Aq U ρ v v'):(v'=.none↔v=.none):=by
 cases v<;>simp only [Aq,VR]at h
 all_goals first | (subst h;simp) | (obtain⟨t,rfl⟩:=h;simp) | (obtain⟨p,_,rfl⟩:=h;simp)
theorem Qd{neg:Bool}{m:ME Fn}{e:Expr}{k:Nat}{p pos:Pos}(h:SE U xc C A X env Γ m e):
  SE U xc C A X env Γ (.isNone neg m) (.Compare e [if neg then .IsNot else .Is] [.Constant .none k p] pos):=by
 intro ρ H s vs Q E x eo hp
 refine wpAny_Compare1 (h ρ H s vs _ E x eo (hp.bnd (rel1:=Aq U) fun v H1 ρ1 v' h1 Bk J l1 x1 r1 AS=> ?_)) (by cases neg<;>rfl)
 refine wpAny_Constant_none ?_
 have iff:=N6 r1
 have fin:Q (.bool (xor neg (decide (v=.none)))) { s with heap:=h1,toks:=Bk}:=AT (tk:=Bk) AS x1 rfl
 have pl:plainIs v' .none=true:=by
  cases v<;>simp only [Aq,VR]at r1
  all_goals first | (subst r1;rfl) | (obtain⟨t,rfl⟩:=r1;rfl) | (obtain⟨p,_,rfl⟩:=r1;rfl)
 by_cases q:v=.none
 .have:v'=.none:=iff.mpr q
  subst this
  cases neg
  .exact wpAny_is_self pl (by simpa [q]using fin)
  .exact wpAny_isNot_self pl (by simpa [q]using fin)
 .have:v'≠.none:=fun e=>q (iff.mp e)
  cases neg
  .exact wpAny_is_other pl this (by simpa [q]using fin)
  .exact wpAny_isNot_other pl this (by simpa [q]using fin)
noncomputable def Ar(e:Expr):Bool:= @Expr.casesOn (fun J=>Bool) e (fun J J J=>true) (fun J J J=>true) (fun J J J J=>true) (fun J J J=>true) (fun J J J J=>true) (fun J J J J=>true) (fun J J J=>true) (fun J J J=>true) (fun J J J J=>true) (fun J J J J=>true) (fun J J J J J=>true) (fun J J J J=>true) (fun J J=>true) (fun J J=>true) (fun J J=>true) (fun J J J J=>true) (fun J J J J=>true) (fun J J J J=>true) (fun J J=>true) (fun J J J=>true) (fun J J J=>true) (fun J J J=>true) (fun J J=>false) (fun J J=>true) (fun J J=>true) (fun J J J=>true) (fun J J J J=>true)
theorem AH{e:Expr}{r:List Expr}{env:PySem.Env}(h:Ar e=true):starEach (e::r) env=(false,eval e env)::starEach r env:=by
 refine WO h ?_;clear h
 cases e<;>first | exact rfl | exact True.intro
theorem RP{es:List Expr}{env:PySem.Env}{pos:Pos}(h:es.all Ar=true):(backTo pos (starEach es env)).any (·.1)=false:=by
 induction es with
 | nil=>rfl
 | cons e r ih=>
  rw[List.all_cons,DN]at h
  rw[AH h.1]
  show(false||(backTo pos (starEach r env)).any (·.1))=false
  rw[ih h.2];rfl
theorem SV{es:List Expr}{env:PySem.Env}{pos:Pos}(h:es.all Ar=true):(backTo pos (starEach es env)).all (!·.1)=true:=by
 induction es with
 | nil=>rfl
 | cons e r ih=>
  rw[List.all_cons,DN]at h
  rw[AH h.1]
  show(true&&(backTo pos (starEach r env)).all (!·.1))=true
  rw[ih h.2];rfl
section
variable{M:Model}
theorem Au{P:Heap->Prop}{f:Value}{first:List Value}{es:List Expr}(hes:es.all Ar=true)(hk:∀h,P h->∃k,(k=Keeper.frame\/k=Keeper.machine\/k=Keeper.boundFrame)/\Looks M h (keeperOf f) k)
  (h:wpAny M A (spliced (backTo pos (starEach es env))) (fun vs s₁=>P s₁.heap/\wpAny M A (call f (first++vs)) Q E s₁) E s):
  wpAny M A (callWith pos f first (backTo pos (starEach es env)) []) Q E s:=by
 refine callWith_of (P:=P) (by rw[RP hes];rfl) hk ?_
 cases es with
 | nil=>
  unfold evalArgs
  show wpAny M A (spliced [] >>= _) _ E s
  refine As (wpAny_mono h (fun vs s₁ h₁=> ?_) fun J J x=>x)
  refine As (BE ?_)
  refine wpAny_holding ?_
  exact As (BE (As (BE (BE h₁))))
 | cons e r=>
  rw[List.all_cons,DN]at hes
  rw[AH hes.1]at h ⊢
  exact evalArgs_plain h
theorem Dz{T:String}(h:Heap)(_:True):∃k,(k=Keeper.frame\/k=Keeper.machine\/k=Keeper.boundFrame)/\Looks M h (keeperOf (.type T)) k:=⟨.machine,.inr (.inl rfl),Looks.of_pure rfl⟩
theorem CE{T:String}(h:Heap)(_:True):∃k,(k=Keeper.frame\/k=Keeper.machine\/k=Keeper.boundFrame)/\Looks M h (keeperOf (.builtin T)) k:=⟨.machine,.inr (.inl rfl),Looks.of_pure rfl⟩
theorem CP{o:Expr}{name:Str}{es:List Expr}(hb:A0 o=true)(hes:es.all Ar=true)(hn:es.length < 30)(hl:(apos.endLine==pos.line)=true)
  (h:wpAny M A (eval o env) (fun ov s₁=>∀pl,wpAny M A (getMethod ov name pl) (fun fx s₂=>wpAny M A (callWith pos fx.1 fx.2 (backTo pos (starEach es env)) []) Q E s₂) E s₁) E s):
  wpAny M A (eval (.Call (.Attribute o name apos) es [] pos) env) Q E s:=by
 show wpAny M A (do
  let ov <-attributeBase o name env (eval o env)
  standAt apos.atName
  methodCall o name apos pos env ov (es.length+0) (backTo pos (starEach es env)) []) Q E s
 rw[C4 hb]
 refine As (wpAny_mono h (fun ov s₁ h₁=>As (wpAny_standAt ?_)) fun J J x=>x)
 have hf:methodCallForm (es.length+0) (backTo pos (starEach es env)) ([]:List (Option Str×Sem Value))=true:=by
  unfold methodCallForm
  rw[SV hes]
  simp;exact zz ‹_› (by rfl)
 unfold methodCall
 rw[hf]
 unfold calleeOf
 refine As (wpAny_holding ?_)
 simp only [if_true]
 refine wpAny_mono (h₁ _) (fun fx s₂ h₂=> ?_) fun J J x=>x
 have hp:methodCallPos true o env apos pos=pure pos:=by
  unfold methodCallPos
  rw[hl];rfl
 rw[hp]
 exact As (BE h₂)
theorem BC{np:Pos}{nm:Str}{es:List Expr}(h:wpAny M A (eval (.Name nm np) env) (fun f s₁=>wpAny M A (callWith pos f [] (backTo pos (starEach es env)) []) Q E s₁) E s):wpAny M A (eval (.Call (.Name nm np) es [] pos) env) Q E s:=
 wpAny_Call_ofName h
end
noncomputable abbrev NE(U:Un):A9->List V->List Value->Prop:=C3 U.sa
noncomputable def OB(U:Un)(xc:Value)(C:Ja Fn)(A:Around)(X:Fx)(env:PySem.Env)(Γ:List Str)(ms:List (ME Fn))(es:List Expr):Prop:=
 ∀pos ρ H s vs Q E,AL U X ρ H s.heap->EO U X ρ env Γ vs->Ae (NE U) U xc X ρ (Ep C ms vs H) Q E s->wpAny (model U.prog U.w) A (spliced (backTo pos (starEach es env))) Q E s
theorem KT:OB U xc C A X env Γ [] []:=by
 intro pos ρ H s vs Q E x eo hp
 exact wpAny_items_nil (hp ρ [] s.heap s.toks (BF _) x trivial)
theorem Jr{m:ME Fn}{ms:List (ME Fn)}{e:Expr}{es:List Expr}(hs:Ar e=true)(h:SE U xc C A X env Γ m e)(h2:OB U xc C A X env Γ ms es):OB U xc C A X env Γ (m::ms) (e::es):=by
 intro pos ρ H s vs Q E x eo hp
 refine spliced_more (h ρ H s vs _ E x eo (hp.bnd (rel1:=Aq U) fun v H1 ρ1 v' h1 Bk J l1 x1 r1 AS=> ?_)) (AH hs)
 refine h2 pos ρ1 H1 _ vs _ E x1 (eo.mono l1) (AS.bnd (rel1:=NE U) fun k H2 ρ2 k' h2 tk2 J l2 x2 r2 Cb=> ?_)
 exact Cb ρ2 (v'::k') h2 tk2 (BF _) x2 ⟨r1.mono l2,r2⟩
theorem XV(gf:GF U X.G){ms:List (ME Fn)}{es:List Expr}{pos:Pos}(h:OB U xc C A X env Γ ms es):SE U xc C A X env Γ (.lst ms) (.List es pos):=by
 intro ρ H s vs Q E x eo hp
 refine List_ (h pos ρ H s vs _ E x eo (hp.bnd (rel1:=NE U) fun v H1 ρ1 v' h1 Bk J l1 x1 r1 AS=> ?_))
 by_cases hl:v.length<=BR
 .rw [if_pos hl]at AS
  exact VB gf x1 r1 hl AS
 .rw [if_neg hl]at AS;exact AS.elim
theorem Xg(gf:GF U X.G){ms:List (ME Fn)}{es:List Expr}{k:Nat}{pos:Pos}(h:OB U xc C A X env Γ ms es):SE U xc C A X env Γ (.tup ms) (.Tuple es k pos):=by
 intro ρ H s vs Q E x eo hp
 refine Tuple_ (h pos ρ H s vs _ E x eo (hp.bnd (rel1:=NE U) fun v H1 ρ1 v' h1 Bk J l1 x1 r1 AS=> ?_))
 by_cases hl:v.length<=BR
 .rw [if_pos hl]at AS
  exact Vl gf x1 r1 hl AS
 .rw [if_neg hl]at AS;exact AS.elim
theorem UH(gf:GF U X.G){pos:Pos}:SE U xc C A X env Γ .dct0 (.Dict [] [] pos):=by
 intro ρ H s vs Q E x eo hp
 exact Re gf x hp
theorem Tq(gf:GF U X.G){pos:Pos}:SE U xc C A X env Γ .dct0I (.Dict [] [] pos):=by
 intro ρ H s vs Q E x eo hp
 exact PY gf x hp
theorem SZ{α β:Type}{rel:A9->α->β->Prop}{Q:β->Shared->Prop}{v:V}{c:Af}{f:Unit->M α}(hp:Ae rel U xc X ρ (bnd (stays v c) f H) Q E s):∃i,v=.ref i/\H[i]? =some c/\Ae rel U xc X ρ (f () H) Q E s:=
 Bx (P:=fun v=>∃i,v=.ref i/\H[i]? =some c/\Ae rel U xc X ρ (f () H) Q E s) hp.as fun i c' e hp=>Gc hp fun q hp=>⟨i,rfl,by rw[e,q],hp⟩
theorem Uc(gf:GF U X.G){k:Nat}{m:ME Fn}{e:Expr}{j:Nat}{p pos:Pos}(h:SE U xc C A X env Γ m e):SE U xc C A X env Γ (.dct1 k m) (.Dict [some (.Constant (.str (wd k)) j p)] [e] pos):=by
 intro ρ H s vs Q E x eo hp
 refine wpAny_Dict_pairs (knd:=PySem.strKind U.prog U.w) (pairs:=[(eval (.Constant (.str (wd k)) j p) env,do let x <-eval e env;standAt pos;pure x)]) rfl (by simp) (by simp) ?_
 obtain⟨l,N,_,_,kk⟩:=FS.made (xc:=xc) (E:=E) (Q:=fun v s₁=>v=.ref s.heap.objs.size->wpAny (model U.prog U.w) A (evalPairs [(eval (.Constant (.str (wd k)) j p) env,do let x <-eval e env;standAt pos;pure x)]) (fun vs s₁=>∃kvs,Carries (PySem.strKind U.prog U.w) vs kvs/\s₁.heap.DictOf (PySem.strKind U.prog U.w) s.heap.objs.size []/\
   ∀h',h'.DictOf (PySem.strKind U.prog U.w) s.heap.objs.size (merged [] kvs)->Heap.SameBut s.heap.objs.size s₁.heap h'->Q (.ref s.heap.objs.size) { s₁ with heap:=h',toks:=s₁.toks+vs.length}) E s₁) gf x
 refine kk (o:={ cls:= .type "dict",data:= .dict #[]}) (tk:=s.toks) (hp.bnd (rel1:=Aq U) fun d H1 ρ1 d' h1 Bk ha l1 x1 r1 AS=> ?_) (x.fr.push _) (N.push x.fr _) ?_ rfl
 .rintro rfl
  refine evalPairs_cons (wpAny_Constant_str ?_)
  refine As (h ρ1 H1 _ vs _ E x1 (eo.mono l1) (AS.bnd (rel1:=Aq U) fun v H2 ρ2 v' h2 tk2 J l2 x2 r2 Cb=> ?_))
  refine As (wpAny_standAt (BE (evalPairs_nil ?_)))
  obtain⟨i,rfl,hc,hp3⟩:=SZ Cb
  obtain⟨a,o,news,g,e1,lo,⟨o₂,es,e2,hd,vd⟩,N2,hm,up,back⟩:=FS.oneCell (s:={ s with heap:=h2,toks:=tk2}) x2 hc (fun J J=>by simp)
  cases e2
  have hes:es=[]:=by cases es with | nil=>rfl | cons _ _=>exact vd.elim
  subst hes
  obtain⟨pp,e3,e4⟩:=r1
  have e5:ρ2[i]? =some pp:=Di l2 e3
  rw[e1]at e5
  cases e5
  have e6:s.heap.objs.size=a.1:=Value.ref.inj e4
  obtain⟨pre,post,rfl,hg,a1,b1⟩:=up.split
  have hmem:=N2 (a.1,o) (Da _ (.head _))
  refine⟨[(wd k,v')],⟨strKind_is _ _ _ _,rfl,trivial⟩,by rw[e6];exact Heap.dictOf_iff.mpr ⟨o,hmem.1,hd⟩,fun h' hD hs=> ?_⟩
  rw[e6]at hD hs ⊢
  obtain⟨o',ho',hd'⟩:=Heap.dictOf_iff.mp hD
  refine hp3 ρ2 (.ref a.1) h' _ (BF _) (back (.dictW [(k,v)]) o' h' ⟨o',[(wd k,v')],rfl,hd',rfl,r2,trivial⟩ (x2.fr.change hs hmem.2.1 hmem.2.2) (hg o'▸N2.setIn a1 b1 hs ho')) ⟨a,e1,rfl⟩
 .refine ⟨_,[],rfl,?_,trivial⟩
  obtain⟨o,ho,hd⟩:=Heap.dictOf_iff.mp (Heap.DictOf.new (knd:=PySem.strKind U.prog U.w) s.heap)
  rw[Heap.get?_push_size _ rfl]at ho
  cases ho
  exact hd
noncomputable def EE:List String:=["len","isinstance","max","range","list","dict","str","int"]
noncomputable def FH:Dx->String
 | .null=>"Null" | .vector=>"Vector"
structure UB(U:Un):Prop where
 blt:∀nm,nm ∈ EE->nsIn U.K mainGlobals (Str.ofString nm)=some none
 cls:∀c,nsIn U.K mainGlobals (Str.ofString (FH c))=some (some (.ref (U.cls c)))
noncomputable abbrev YJ(f:Value):Prop:=∀(M:Model) (h:Heap),True->∃k,(k=Keeper.frame\/k=Keeper.machine\/k=Keeper.boundFrame)/\Looks M h (keeperOf f) k
theorem GI(ek:AJ X Ad env ns)(gf:GF U X.G)(ub:UB U){nm:String}(hm:nm ∈ EE){f:Value}(hn:Dl ns (Str.ofString nm)=true)(hv:bootBuiltins (Str.ofString nm)=some f)(hn':Str.ofString nm≠"__name__")(kp:YJ f)
  {m mm:ME Fn} {e:Expr} (hs:Ar e=true) {op:V->M V} (he:∀vs,Ac C mm vs=bnd (Ac C m vs) op) (h:SE U xc C A X env Γ m e)
  (hop:∀ρ H s v v' Q E,AL U X ρ H s.heap->Aq U ρ v v'->Ae (Aq U) U xc X ρ (op v H) Q E s->wpAny (model U.prog U.w) A (call f [v']) Q E s):
  SE U xc C A X env Γ mm (.Call (.Name (Str.ofString nm) np) [e] [] pos):=by
 intro ρ H s vs Q E x eo hp
 rw[he]at hp
 refine BC (BM ek gf x hn (ub.blt nm hm) hv hn' ?_)
 refine Au (P:=fun J=>True) (by simp[hs]) (kp _) ?_
 refine Jr hs h KT pos ρ H _ vs _ E x eo ?_
 show Ae (NE U) U xc X ρ (bnd (Ac C m vs) (fun v=>bnd (ret []) fun vs=>ret (v::vs)) H) _ E s
 unfold Ae at hp ⊢
 simp only [bnd]at hp ⊢
 cases q:Ac C m vs H with
 | ok v H1=>
  rw[q]at hp
  dsimp only at hp ⊢
  intro ρ1 l h1 Bk l1 x1 r1
  obtain⟨y,rfl⟩:∃y,l=[y]:=by
   cases l with
   | nil=>exact r1.elim
   | cons y r=>cases r with | nil=>exact⟨y,rfl⟩ | cons _ _=>exact r1.2.elim
  refine⟨trivial,hop ρ1 H1 { s with heap:=h1,toks:=Bk} v y Q E x1 r1.1 ?_⟩
  unfold Ae
  cases q2:op v H1 with
  | ok a H2=>rw[q2]at hp;exact fun ρ' v' h' CG l'=>hp ρ' v' h' CG (l1.trans l')
  | exc e H2=>rw[q2]at hp;exact fun ρ' v' h' CG l'=>hp ρ' v' h' CG (l1.trans l')
  | bad=>rw[q2]at hp;exact hp
 | exc e H1=>rw[q]at hp;exact hp
 | bad=>rw[q]at hp;exact hp
theorem WA{m1 m2:ME Fn}{e1 e2:Expr}{op:V->V->M V}(s1:Ar e1=true)(s2:Ar e2=true)(h1:SE U xc C A X env Γ m1 e1)(h2:SE U xc C A X env Γ m2 e2){f:Value}{first:List Value}
  (x:AL U X ρ H s.heap) (eo:EO U X ρ env Γ vs) (hp:Ae (Aq U) U xc X ρ (bnd (Ac C m1 vs) (fun x=>bnd (Ac C m2 vs) fun y=>op x y) H) Q E s)
  (hop:∀ρ' H s v1 v2 v1' v2' Q E,ρ <+:ρ'->AL U X ρ' H s.heap->Aq U ρ' v1 v1'->Aq U ρ' v2 v2'->Ae (Aq U) U xc X ρ' (op v1 v2 H) Q E s->wpAny (model U.prog U.w) A (call f (first++[v1',v2'])) Q E s):
  wpAny (model U.prog U.w) A (spliced (backTo pos (starEach [e1,e2] env))) (fun vs s₁=>True/\wpAny (model U.prog U.w) A (call f (first++vs)) Q E s₁) E s:=by
 refine spliced_more (h1 ρ H s vs _ E x eo (hp.bnd (rel1:=Aq U) fun v H1 ρ1 v' h1 Bk J l1 x1 r1 AS=> ?_)) (AH s1)
 refine spliced_more (h2 ρ1 H1 _ vs _ E x1 (eo.mono l1) (AS.bnd (rel1:=Aq U) fun w H2 ρ2 w' h2 tk2 J l2 x2 r2 Cb=> ?_)) (AH s2)
 exact wpAny_items_nil ⟨trivial,hop ρ2 H2 _ v w v' w' Q E (l1.trans l2) x2 (r1.mono l2) r2 Cb⟩
theorem Oo{m1:ME Fn}{e1:Expr}{op:V->M V}(s1:Ar e1=true)(h1:SE U xc C A X env Γ m1 e1){f:Value}{first:List Value}
  (x:AL U X ρ H s.heap) (eo:EO U X ρ env Γ vs) (hp:Ae (Aq U) U xc X ρ (bnd (Ac C m1 vs) op H) Q E s)
  (hop:∀ρ' H s v1 v1' Q E,ρ <+:ρ'->AL U X ρ' H s.heap->Aq U ρ' v1 v1'->Ae (Aq U) U xc X ρ' (op v1 H) Q E s->wpAny (model U.prog U.w) A (call f (first++[v1'])) Q E s):
  wpAny (model U.prog U.w) A (spliced (backTo pos (starEach [e1] env))) (fun vs s₁=>True/\wpAny (model U.prog U.w) A (call f (first++vs)) Q E s₁) E s:=by
 refine spliced_more (h1 ρ H s vs _ E x eo (hp.bnd (rel1:=Aq U) fun v H1 ρ1 v' h1 Bk J l1 x1 r1 AS=> ?_)) (AH s1)
 exact wpAny_items_nil ⟨trivial,hop ρ1 H1 _ v v' Q E l1 x1 r1 AS⟩
theorem C0{nm:String}(hm:nm ∈ EE):Str.ofString nm≠"__name__":=by
 simp only [EE,List.mem_cons,List.not_mem_nil,or_false]at hm
 rcases hm with rfl | rfl | rfl | rfl | rfl | rfl | rfl | rfl<;>decide
theorem Yj(ek:AJ X Ad env ns)(gf:GF U X.G)(ub:UB U)(hn:Dl ns "len"=true){m:ME Fn}{e:Expr}(hs:Ar e=true)(h:SE U xc C A X env Γ m e):
  SE U xc C A X env Γ (.len m) (.Call (.Name "len" np) [e] [] pos):=
 GI ek gf ub (nm:="len") (by decide) hn rfl (C0 (by decide)) (fun J=>CE) hs (op:=VP) (fun vs=>rfl) h (fun ρ H s v v' Q E x hv hp=>Ua x hv hp)
theorem PN(ek:AJ X Ad env ns)(gf:GF U X.G)(ub:UB U)(hn:Dl ns "list"=true){m:ME Fn}{e:Expr}(hs:Ar e=true)(h:SE U xc C A X env Γ m e):
  SE U xc C A X env Γ (.listOf m) (.Call (.Name "list" np) [e] [] pos):=
 GI ek gf ub (nm:="list") (by decide) hn rfl (C0 (by decide)) (fun J=>Dz) hs (op:=OP) (fun vs=>rfl) h (fun ρ H s v v' Q E x hv hp=>N3 gf x hv hp)
theorem PW(ek:AJ X Ad env ns)(gf:GF U X.G)(ub:UB U)(hn:Dl ns "dict"=true){m:ME Fn}{e:Expr}(hs:Ar e=true)(h:SE U xc C A X env Γ m e):
  SE U xc C A X env Γ (.dictOf m) (.Call (.Name "dict" np) [e] [] pos):=
 GI ek gf ub (nm:="dict") (by decide) hn rfl (C0 (by decide)) (fun J=>Dz) hs (op:=OE) (fun vs=>rfl) h (fun ρ H s v v' Q E x hv hp=>NO gf x hv hp)
theorem QP(ek:AJ X Ad env ns)(gf:GF U X.G)(ub:UB U)(hn:Dl ns "str"=true){m:ME Fn}{e:Expr}(hs:Ar e=true)(h:SE U xc C A X env Γ m e):
  SE U xc C A X env Γ (.strOf m) (.Call (.Name "str" np) [e] [] pos):=
 GI ek gf ub (nm:="str") (by decide) hn rfl (C0 (by decide)) (fun J=>Dz) hs (op:=Ve) (fun vs=>rfl) h (fun ρ H s v v' Q E x hv hp=>Vm x hv hp)
theorem Vu(cx:Cx U A X Ad n)(ek:AJ X Ad env ns)(ub:UB U)(hn:Dl ns "max"=true){m1 m2:ME Fn}{e1 e2:Expr}(s1:Ar e1=true)(s2:Ar e2=true)(h1:SE U xc C A X env Γ m1 e1)(h2:SE U xc C A X env Γ m2 e2):
  SE U xc C A X env Γ (.max2 m1 m2) (.Call (.Name "max" np) [e1,e2] [] pos):=by
 intro ρ H s vs Q E x eo hp
 refine BC (BM ek cx.gf x hn (ub.blt "max" (by decide)) rfl (C0 (nm:="max") (by decide)) ?_)
 refine Au (P:=fun J=>True) (by simp[s1,s2]) CE ?_
 exact WA s1 s2 h1 h2 (first:=[]) x eo hp fun ρ' H s v1 v2 v1' v2' Q E J x r1 r2 hp=>UX cx x r1 r2 hp
theorem HE{nm:Str}{v:Value}{m:ME Fn}{e:Expr}{op:V->M V}{p2:Pos}(s1:Ar e=true)(h1:SE U xc C A X env Γ m e)
  (x:AL U X ρ H s.heap) (eo:EO U X ρ env Γ vs) (hp:Ae (Aq U) U xc X ρ (bnd (Ac C m vs) op H) Q E s)
  (h2:∀ρ' H s Q,AL U X ρ' H s.heap->Q v s->wpAny (model U.prog U.w) A (eval (.Name nm p2) env) Q E s)
  (hop:∀ρ' H s v1 v1' Q,AL U X ρ' H s.heap->Aq U ρ' v1 v1'->Ae (Aq U) U xc X ρ' (op v1 H) Q E s->wpAny (model U.prog U.w) A (call (.builtin "isinstance") [v1',v]) Q E s):
  wpAny (model U.prog U.w) A (spliced (backTo pos (starEach [e,.Name nm p2] env))) (fun vs s₁=>True/\wpAny (model U.prog U.w) A (call (.builtin "isinstance") ([]++vs)) Q E s₁) E s:=by
 refine spliced_more (h1 ρ H s vs _ E x eo (hp.bnd (rel1:=Aq U) fun v H1 ρ1 v' h1 Bk J l1 x1 r1 AS=> ?_)) (AH s1)
 refine spliced_more (h2 ρ1 H1 _ _ x1 ?_) (AH rfl)
 exact wpAny_items_nil ⟨trivial,hop ρ1 H1 _ v v' Q x1 r1 AS⟩
theorem WY(gf:GF U X.G)(ek:AJ X Ad env ns)(ub:UB U)(hn:Dl ns "isinstance"=true)(hn2:Dl ns "Vector"=true){m:ME Fn}{e:Expr}{p2:Pos}(hs:Ar e=true)(h:SE U xc C A X env Γ m e):
  SE U xc C A X env Γ (.isV m) (.Call (.Name "isinstance" np) [e,.Name "Vector" p2] [] pos):=by
 intro ρ H s vs Q E x eo hp
 refine BC (BM ek gf x hn (ub.blt "isinstance" (by decide)) rfl (C0 (nm:="isinstance") (by decide)) ?_)
 refine Au (P:=fun J=>True) (by rw[List.all_cons,hs];rfl) CE ?_
 exact HE hs h x eo hp (fun ρ' H s Q x hq=>Dy ek gf x hn2 (ub.cls .vector) hq) fun ρ' H s v1 v1' Q x r hp=>UP x gf r hp
theorem Xd(uf:UF U)(ug:UG U)(gf:GF U X.G)(ek:AJ X Ad env ns)(ub:UB U){t:Ty}(hn:Dl ns "isinstance"=true)(hn2:Dl ns (Str.ofString (Hs t))=true){m:ME Fn}{e:Expr}{p2:Pos}(hs:Ar e=true)(h:SE U xc C A X env Γ m e):
  SE U xc C A X env Γ (.isT m t) (.Call (.Name "isinstance" np) [e,.Name (Str.ofString (Hs t)) p2] [] pos):=by
 intro ρ H s vs Q E x eo hp
 refine BC (BM ek gf x hn (ub.blt "isinstance" (by decide)) rfl (C0 (nm:="isinstance") (by decide)) ?_)
 refine Au (P:=fun J=>True) (by rw[List.all_cons,hs];rfl) CE ?_
 refine HE (v:= .type (Hs t)) hs h x eo hp (fun ρ' H s Q x hq=> ?_) fun ρ' H s v1 v1' Q x r hp=>UL ug x uf gf r hp
 cases t
 .exact BM ek gf x hn2 (ub.blt "str" (by decide)) rfl (C0 (nm:="str") (by decide)) hq
 .exact BM ek gf x hn2 (ub.blt "int" (by decide)) rfl (C0 (nm:="int") (by decide)) hq
 .exact BM ek gf x hn2 (ub.blt "list" (by decide)) rfl (C0 (nm:="list") (by decide)) hq
theorem MY{α:Type}{i:Nat}{k:Nat->Af->M α}(h:∀c,H[i]? =some c->k i c H=.bad):Jw (.ref i) k H=.bad:=by
 show bnd (B4 (.ref i)) (k i) H=.bad
 cases e:H[i]? with
 | none=>unfold bnd;rw[show B4 (.ref i) H=.bad by show Cp H[i]? H=_;rw[e];rfl]
 | some c=>rw[C7 e];exact h c e
section
variable{α β:Type}{rel:A9->α->β->Prop}{Q:β->Shared->Prop}{v:V}
theorem UO{f:Unit->M α}(hp:Ae rel U xc X ρ (bnd (R6 v) f H) Q E s):∃i xs,v=.ref i/\H[i]? =some (.list xs)/\Ae rel U xc X ρ (f () H) Q E s:=
 Bx (P:=fun v=>∃i xs,v=.ref i/\H[i]? =some (.list xs)/\Ae rel U xc X ρ (f () H) Q E s) hp.as fun i c e hp=>by
  cases c with
  | list xs=>exact⟨i,xs,rfl,e,hp⟩
  | _=>exact hp.elim
theorem Os{f:Unit->M α}(hp:Ae rel U xc X ρ (bnd (T6 v) f H) Q E s):∃i xs,v=.ref i/\H[i]? =some (.dictW xs)/\Ae rel U xc X ρ (f () H) Q E s:=
 Bx (P:=fun v=>∃i xs,v=.ref i/\H[i]? =some (.dictW xs)/\Ae rel U xc X ρ (f () H) Q E s) hp.as fun i c e hp=>by
  cases c with
  | dictW xs=>exact⟨i,xs,rfl,e,hp⟩
  | _=>exact hp.elim
theorem TB{f:Bool->M α}(hp:Ae rel U xc X ρ (bnd (W1 v) f H) Q E s):∃i t xs,v=.ref i/\H[i]? =some (if t then .tup xs else .list xs)/\Ae rel U xc X ρ (f t H) Q E s:=
 Bx (P:=fun v=>∃(i:Nat) (t:Bool) (xs:List V),v=.ref i/\H[i]? =some (if t then .tup xs else .list xs)/\Ae rel U xc X ρ (f t H) Q E s) hp.as fun i c e hp=>by
  cases c with
  | list xs=>exact⟨i,false,xs,rfl,e,hp⟩
  | tup xs=>exact⟨i,true,xs,rfl,e,hp⟩
  | _=>exact hp.elim
theorem VM{f:Unit->M α}(hp:Ae rel U xc X ρ (bnd (Xb v) f H) Q E s):∃i,v=.w i/\Ae rel U xc X ρ (f () H) Q E s:=K3 (P:=fun v=>∃i,v=.w i/\Ae rel U xc X ρ (f () H) Q E s) hp fun i hp=>⟨i,rfl,hp⟩
end
theorem Jt(x:AL U X ρ H s.heap){i:Nat}{xs:List V}{v':Value}(hc:H[i]? =some (.list xs))(hv:Aq U ρ (.ref i) v'){name:Str}{id:String}(slot:Slot "list" name id)(hty:typeOf (.builtin id)=pure (.type "method_descriptor")){pl:Sem Bool}{Q:Value×List Value->Shared->Prop}
  (h:Q (.builtin id,[v']) s):wpAny (model U.prog U.w) A (getMethod v' name pl) Q E s:=by
 obtain⟨a,vs,n,news,e1,Ec,N,hm,_⟩:=FS.listCell x hc
 obtain⟨p,ep,rfl⟩:=hv
 rw[e1]at ep;cases ep
 exact kl_method N hm slot hty h
theorem L7(x:AL U X ρ H s.heap){i:Nat}{xs:List (Nat×V)}{v':Value}(hc:H[i]? =some (.dictW xs))(hv:Aq U ρ (.ref i) v'){pl:Sem Bool}{Q:Value×List Value->Shared->Prop}
  (h:Q (.builtin "dict.get",[v']) s):wpAny (model U.prog U.w) A (getMethod v' "get" pl) Q E s:=by
 obtain⟨a,o,news,g,e1,lo,⟨o₂,es,e2,hd,vd⟩,N,hm,up,back⟩:=FS.oneCell x hc (fun J J=>by simp)
 cases e2
 obtain⟨p,ep,rfl⟩:=hv
 rw[e1]at ep;cases ep
 exact kdg_method (knd:=PySem.strKind U.prog U.w) N hm hd h
theorem Mv(op:V->V->M V){name:Str}{id:String}(slot:Slot "list" name id)(hty:typeOf (.builtin id)=pure (.type "method_descriptor"))
  {m1 m2 mm:ME Fn} {o e:Expr} (hb:A0 o=true) (hl:(apos.endLine==pos.line)=true) (s2:Ar e=true) (he:∀vs,Ac C mm vs=bnd (Ac C m1 vs) fun x=>bnd (R6 x) fun J=>bnd (Ac C m2 vs) fun y=>op x y)
  (h1:SE U xc C A X env Γ m1 o) (h2:SE U xc C A X env Γ m2 e)
  (hop:∀ρ' H s v1 v2 v1' v2' Q E,AL U X ρ' H s.heap->Aq U ρ' v1 v1'->Aq U ρ' v2 v2'->Ae (Aq U) U xc X ρ' (op v1 v2 H) Q E s->wpAny (model U.prog U.w) A (call (.builtin id) [v1',v2']) Q E s):
  SE U xc C A X env Γ mm (.Call (.Attribute o name apos) [e] [] pos):=by
 intro ρ H s vs Q E x eo hp
 rw[he]at hp
 refine CP hb (by simp[s2]) (by simp) hl ?_
 refine h1 ρ H s vs _ E x eo (hp.bnd (rel1:=Aq U) fun v H1 ρ1 v' h1 Bk J l1 x1 r1 AS=> ?_)
 intro pl
 obtain⟨i,xs,rfl,hc,Cb⟩:=UO AS
 refine Jt (s:={ s with heap:=h1,toks:=Bk}) x1 hc r1 slot hty ?_
 refine Au (P:=fun J=>True) (by simp[s2]) CE ?_
 exact Oo s2 h2 (first:=[v']) x1 (eo.mono l1) Cb fun ρ' H s v2 v2' Q E l x r2 hp=>hop ρ' H s _ v2 v' v2' Q E x (r1.mono l) r2 hp
theorem Mi(op:V->M V){name:Str}{id:String}(slot:Slot "list" name id)(hty:typeOf (.builtin id)=pure (.type "method_descriptor"))
  {m1 mm:ME Fn} {o:Expr} (hb:A0 o=true) (hl:(apos.endLine==pos.line)=true) (he:∀vs,Ac C mm vs=bnd (Ac C m1 vs) op) (hlist:∀v H,(∀i xs,v=.ref i->H[i]?≠some (.list xs))->op v H=.bad)
  (h1:SE U xc C A X env Γ m1 o)
  (hop:∀ρ' H s v1 v1' Q E,AL U X ρ' H s.heap->Aq U ρ' v1 v1'->Ae (Aq U) U xc X ρ' (op v1 H) Q E s->wpAny (model U.prog U.w) A (call (.builtin id) [v1']) Q E s):
  SE U xc C A X env Γ mm (.Call (.Attribute o name apos) [] [] pos):=by
 intro ρ H s vs Q E x eo hp
 rw[he]at hp
 refine CP hb rfl (by simp) hl ?_
 refine h1 ρ H s vs _ E x eo (hp.bnd (rel1:=Aq U) fun v H1 ρ1 v' h1 Bk J l1 x1 r1 AS=> ?_)
 intro pl
 by_cases q:∃i xs,v=.ref i/\H1[i]? =some (.list xs)
 .obtain ⟨i,xs,rfl,hc⟩:=q
  refine Jt (s:={ s with heap:=h1,toks:=Bk}) x1 hc r1 slot hty ?_
  refine Au (P:=fun J=>True) rfl CE ?_
  exact wpAny_items_nil ⟨trivial,hop ρ1 H1 _ _ v' Q E x1 r1 AS⟩
 .rw [hlist v H1 fun i xs e e2=>q ⟨i,xs,e,e2⟩]at AS
  exact AS.elim
theorem P1{m1 m2:ME Fn}{o e:Expr}(hb:A0 o=true)(hl:(apos.endLine==pos.line)=true)(s2:Ar e=true)(h1:SE U xc C A X env Γ m1 o)(h2:SE U xc C A X env Γ m2 e):
  SE U xc C A X env Γ (.append m1 m2) (.Call (.Attribute o "append" apos) [e] [] pos):=
 Mv H6 slot_list_append (by first | exact PySem.F.type_list_append | exact type_list_append) hb hl s2 (fun vs=>rfl) h1 h2 fun ρ' H s v1 v2 v1' v2' Q E x r1 r2 hp=>Of x r1 r2 hp
theorem PU{m1 m2:ME Fn}{o e:Expr}(hb:A0 o=true)(hl:(apos.endLine==pos.line)=true)(s2:Ar e=true)(h1:SE U xc C A X env Γ m1 o)(h2:SE U xc C A X env Γ m2 e):
  SE U xc C A X env Γ (.extend m1 m2) (.Call (.Attribute o "extend" apos) [e] [] pos):=
 Mv CI PySem.F.slot_list_extend PySem.F.type_list_extend hb hl s2 (fun vs=>rfl) h1 h2 fun ρ' H s v1 v2 v1' v2' Q E x r1 r2 hp=>NN x r1 r2 hp
theorem X6{m1:ME Fn}{o:Expr}(hb:A0 o=true)(hl:(apos.endLine==pos.line)=true)(h1:SE U xc C A X env Γ m1 o):
  SE U xc C A X env Γ (.pop m1) (.Call (.Attribute o "pop" apos) [] [] pos):=
 Mi TL PySem.F.slot_list_pop PySem.F.type_list_pop hb hl (fun vs=>rfl) (fun v H hn=>by
  cases v with
  | ref i=>
   refine MY fun c e=> ?_
   cases c with
   | list=>exact absurd e (hn i _ rfl)
   | _=>rfl
  | _=>rfl) h1 fun ρ' H s v1 v1' Q E x r1 hp=>UY x r1 hp
theorem N0{m1:ME Fn}{o:Expr}(hb:A0 o=true)(hl:(apos.endLine==pos.line)=true)(h1:SE U xc C A X env Γ m1 o):
  SE U xc C A X env Γ (.reverse m1) (.Call (.Attribute o "reverse" apos) [] [] pos):=
 Mi GK PySem.F.slot_list_reverse PySem.F.type_list_reverse hb hl (fun vs=>rfl) (fun v H hn=>by
  cases v with
  | ref i=>
   refine MY fun c e=> ?_
   cases c with
   | list=>exact absurd e (hn i _ rfl)
   | _=>rfl
  | _=>rfl) h1 fun ρ' H s v1 v1' Q E x r1 hp=>MC x r1 hp
theorem RN{m1 m2:ME Fn}{o e:Expr}(hb:A0 o=true)(hl:(apos.endLine==pos.line)=true)(s2:Ar e=true)(h1:SE U xc C A X env Γ m1 o)(h2:SE U xc C A X env Γ m2 e):
  SE U xc C A X env Γ (.index m1 m2) (.Call (.Attribute o "index" apos) [e] [] pos):=by
 intro ρ H s vs Q E x eo hp
 refine CP hb (by simp[s2]) (by simp) hl ?_
 refine h1 ρ H s vs _ E x eo (hp.bnd (rel1:=Aq U) fun v H1 ρ1 v' h1 Bk J l1 x1 r1 AS=> ?_)
 intro pl
 obtain⟨i,t,xs,rfl,hc,Cb⟩:=TB AS
 have go:wpAny (model U.prog U.w) A (callWith pos (.builtin (if t then "tuple.index" else "list.index")) [v'] (backTo pos (starEach [e] env)) []) Q E { s with heap:=h1,toks:=Bk}:=by
  refine Au (P:=fun J=>True) (by simp[s2]) CE ?_
  exact Oo s2 h2 (first:=[v']) x1 (eo.mono l1) Cb fun ρ' H s v2 v2' Q E l x r2 hp=>Pv x (r1.mono l) r2 hp
 cases t with
 | false=>exact Jt (s:={ s with heap:=h1,toks:=Bk}) x1 hc r1 PySem.F.slot_list_index PySem.F.type_list_index go
 | true=>
  obtain⟨a,o,news,g,e1,lo,⟨ws,e2,hws⟩,N,hm,up,back⟩:=FS.oneCell (s:={ s with heap:=h1,toks:=Bk}) x1 hc (fun J J=>by simp)
  cases e2
  obtain⟨p,ep,rfl⟩:=r1
  rw[e1]at ep;cases ep
  exact getMethod_builtin ⟨_,(N _ hm).1,rfl⟩ PySem.F.plainAttrs_tuple PySem.F.slot_tuple_index PySem.F.type_tuple_index (fun a e=>by cases e;exact⟨_,(N _ hm).1,rfl⟩) go
theorem VC{m1 m2:ME Fn}{o e:Expr}(hb:A0 o=true)(hl:(apos.endLine==pos.line)=true)(s2:Ar e=true)(h1:SE U xc C A X env Γ m1 o)(h2:SE U xc C A X env Γ m2 e):
  SE U xc C A X env Γ (.get1 m1 m2) (.Call (.Attribute o "get" apos) [e] [] pos):=by
 intro ρ H s vs Q E x eo hp
 refine CP hb (by simp[s2]) (by simp) hl ?_
 refine h1 ρ H s vs _ E x eo (hp.bnd (rel1:=Aq U) fun v H1 ρ1 v' h1 Bk J l1 x1 r1 AS=> ?_)
 intro pl
 obtain⟨i,xs,rfl,hc,Cb⟩:=Os AS
 refine L7 (s:={ s with heap:=h1,toks:=Bk}) x1 hc r1 ?_
 refine Au (P:=fun J=>True) (by simp[s2]) CE ?_
 exact Oo s2 h2 (first:=[v']) x1 (eo.mono l1) Cb fun ρ' H s v2 v2' Q E l x r2 hp=>S6 x (r1.mono l) r2 hp
theorem UZ{m1 m2 m3:ME Fn}{o e e3:Expr}(hb:A0 o=true)(hl:(apos.endLine==pos.line)=true)(s2:Ar e=true)(s3:Ar e3=true)(h1:SE U xc C A X env Γ m1 o)(h2:SE U xc C A X env Γ m2 e)(h3:SE U xc C A X env Γ m3 e3):
  SE U xc C A X env Γ (.get2 m1 m2 m3) (.Call (.Attribute o "get" apos) [e,e3] [] pos):=by
 intro ρ H s vs Q E x eo hp
 refine CP hb (by simp[s2,s3]) (by simp) hl ?_
 refine h1 ρ H s vs _ E x eo (hp.bnd (rel1:=Aq U) fun v H1 ρ1 v' h1 Bk J l1 x1 r1 AS=> ?_)
 intro pl
 obtain⟨i,xs,rfl,hc,Cb⟩:=Os AS
 refine L7 (s:={ s with heap:=h1,toks:=Bk}) x1 hc r1 ?_
 refine Au (P:=fun J=>True) (by simp[s2,s3]) CE ?_
 exact WA s2 s3 h2 h3 (first:=[v']) x1 (eo.mono l1) Cb fun ρ' H s v2 v3 v2' v3' Q E l x r2 r3 hp=>SP x (r1.mono l) r2 r3 hp
theorem PE(ok:Tf C.bg){m1 m2:ME Fn}{o e:Expr}(hb:A0 o=true)(hl:(apos.endLine==pos.line)=true)(s2:Ar e=true)(h1:SE U xc C A X env Γ m1 o)(h2:SE U xc C A X env Γ m2 e):
  SE U xc C A X env Γ (.starts m1 m2) (.Call (.Attribute o "startswith" apos) [e] [] pos):=by
 intro ρ H s vs Q E x eo hp
 refine CP hb (by simp[s2]) (by simp) hl ?_
 refine h1 ρ H s vs _ E x eo (hp.bnd (rel1:=Aq U) fun v H1 ρ1 v' h1 Bk J l1 x1 r1 AS=> ?_)
 intro pl
 obtain⟨i,rfl,Cb⟩:=VM AS
 obtain⟨t,rfl⟩:=r1
 refine GM.startswith ?_
 refine Au (P:=fun J=>True) (by simp[s2]) CE ?_
 exact Oo s2 h2 (first:=[.str (wd i) t]) x1 (eo.mono l1) Cb fun ρ' H s v2 v2' Q E l x r2 hp=>Nq ok x (o:= .w i) ⟨t,rfl⟩ r2 hp
theorem JQ{nm:Str}{p:Pos}:∀o r,letTemporaryGo (.Name nm p) o r=pure ():=fun J J=>rfl
theorem Rb(sc:C.Aa=U.Aa)(gf:GF U X.G){m1 m2:ME Fn}{nm:Str}{p1 p2:Pos}{k:Expr}(h1:SE U xc C A X env Γ m1 (.Name nm p1))(h2:SE U xc C A X env Γ m2 k):
  SE U xc C A X env Γ (.cutTo m1 m2) (.Subscript (.Name nm p1) (.Slice none (some k) none p2) pos):=by
 intro ρ H s vs Q E x eo hp
 change Ae _ _ _ _ _ (bnd _ _ _) _ _ _ at hp
 rw[sc]at hp
 refine wpAny_Subscript_list_slice (h1 ρ H s vs _ E x eo (hp.bnd (rel1:=Aq U) fun v H1 ρ1 v' h1 Bk J l1 x1 r1 AS=> ?_)) JQ
 refine BE ?_
 refine h2 ρ1 H1 _ vs _ E x1 (eo.mono l1) (AS.bnd (rel1:=Aq U) fun w H2 ρ2 w' h2 tk2 J l2 x2 r2 Cb=> ?_)
 exact PB (s:={ s with heap:=h2,toks:=tk2}) gf x2 (r1.mono l2) r2 Cb
theorem Nv(gf:GF U X.G){m1 m2:ME Fn}{nm:Str}{p1 p2:Pos}{k:Expr}(h1:SE U xc C A X env Γ m1 (.Name nm p1))(h2:SE U xc C A X env Γ m2 k):
  SE U xc C A X env Γ (.cutFrom m1 m2) (.Subscript (.Name nm p1) (.Slice (some k) none none p2) pos):=by
 intro ρ H s vs Q E x eo hp
 refine wpAny_Subscript_list_slice (h1 ρ H s vs _ E x eo (hp.bnd (rel1:=Aq U) fun v H1 ρ1 v' h1 Bk J l1 x1 r1 AS=> ?_)) JQ
 refine h2 ρ1 H1 _ vs _ E x1 (eo.mono l1) (AS.bnd (rel1:=Aq U) fun w H2 ρ2 w' h2 tk2 J l2 x2 r2 Cb=> ?_)
 refine BE ?_
 exact Lz (s:={ s with heap:=h2,toks:=tk2}) gf x2 (r1.mono l2) r2 Cb
noncomputable def Rk(f:Fn):Str:=Str.ofString (Yx f)
noncomputable def Lc:Fn->Bool
 | .Cm | .An | .AU=>true
 | _=>false
structure UC(U:Un)(fa:Fn->Addr):Prop where
 glo:∀f,Lc f=false->nsIn U.K mainGlobals (Rk f)=some (some (.ref (fa f)))
 keep:∀f,keepIn U.K (.ref (fa f))=true
theorem KP(ws:List Nat):Ep C (ws.map fun k=> .cst (.w k)) vs H=.ok (ws.map .w) H:=by
 induction ws with
 | nil=>rfl
 | cons k r ih=>
  show bnd (ret (V.w k)) (fun v=>bnd (Ep C (r.map fun k=> .cst (.w k)) vs) fun vs=>ret (v::vs)) H=_
  simp only [bnd,ret,ih,List.map_cons]
theorem Ke(i:Nat):∀ws:List Nat,(ws.map V.w).any (J9 i)=ws.contains i
 | []=>rfl
 | a::r=>by
  rw[List.map_cons,List.any_cons,Ke i r,List.contains_cons]
  congr 1
  by_cases h:a=i
  .subst h;simp[J9]
  .have:i≠a:=fun e=>h e.symm
   simp[J9,h,this]
set_option tactic.hygienic true in
theorem Xj{neg:Bool}{m:ME Fn}{e:Expr}{ws:List Nat}{es:List Expr}{k:Nat}{p:Pos}(hws:ws.length<=100)(h:SE U xc C A X env Γ m e)(h2:OB U xc C A X env Γ (ws.map fun k=> .cst (.w k)) es):
  SE U xc C A X env Γ (.inW neg m ws) (.Compare e [if neg then .NotIn else .In] [.Tuple es k p] pos):=by
 intro ρ H s vs Q E x eo hp
 refine wpAny_Compare1 (h ρ H s vs _ E x eo (hp.bnd (rel1:=Aq U) fun v H1 ρ1 v' h1 Bk _ l1 x1 r1 AS=> ?_)) (by cases neg<;>rfl)
 cases v<;>first | exact AS.elim | skip
 rename_i i _
 obtain⟨t,rfl⟩:=r1
 refine Tuple_ (h2 p ρ1 H1 _ vs _ E x1 (eo.mono l1) ?_)
 rw[KP]
 intro ρ2 vals h2 tk2 l2 x2 r2
 have go:∀s':Shared,s'={ s with heap:=h2.push (Qc vals),toks:=tk2}->wpAny (model U.prog U.w) A (compareOp (if neg then .NotIn else .In) (.str (wd i) t) (.ref h2.objs.size)) Q E s':=by
  rintro s' rfl
  have il:(h2.push (Qc vals)).IsTuple h2.objs.size vals.toArray:=⟨_,Heap.get?_push_size _ rfl,rfl,_,rfl⟩
  have hw:(ws.map V.w).all wn=true:=by simp[wn]
  obtain⟨i1,i2⟩:=Gr (k:=i) (t:=t) (A:=A.in1) (s:={ s with heap:=h2.push (Qc vals),toks:=tk2}) r2 hw
  have e:vals.toArray.any (isStrOf (wd i))=ws.contains i:=by
   rw[List.any_toArray,any_map,i2,<-any_map,Ke]
  have x3:AL U X ρ2 H1 (h2.push (Qc vals)):=FS.keeps x2 fun b o e=>Ds _ e
  have fin:Q (.bool (xor neg (ws.contains i))) { s with heap:=h2.push (Qc vals),toks:=tk2}:=AS ρ2 _ _ tk2 l2 x3 rfl
  cases neg
  .refine in_tupleAt (isStrOf (wd i)) il (fun y hy=>i1 y (by simpa using hy)) ?_
   rw[e];simpa using fin
  .refine notIn_tupleAt (isStrOf (wd i)) il (fun y hy=>i1 y (by simpa using hy)) ?_
   rw[e];simpa using fin
 refine wpAny_newObj_type (go _ rfl) ?_
 show vals.toArray.size<=sizeLine
 rw[List.size_toArray,r2.length,List.length_map,sizeLine_eq]
 exact zz ‹_› (by rfl)
noncomputable def Pm:Fn->Bool
 | .AY=>true
 | _=>false
noncomputable def Hm(U:Un)(xc:Value)(fa:Fn->Addr)(n:Nat)(cl:Fn->List V->M V):Prop:=
 ∀f A X Ad ρ H s vs vs' (R:Result->Shared->Prop),Pm f=false->Cx U A X Ad n->AL U X ρ H s.heap->C3 U.sa ρ vs vs'->Ae (Aq U) U xc X ρ (cl f vs H) (fun v s'=>R (.ok (.ret v)) s') (fun e s'=>R (.error e) s') s->
  codeAny (model U.prog U.w) A (.call (.ref (fa f)) ⟨vs',[]⟩) R s
theorem VL(uc:UC U fa)(cx:Cx U A X Ad n)(ek:AJ X Ad env ns)(ok:Hm U xc fa n C.call){f:Fn}{ms:List (ME Fn)}{es:List Expr}(hn:Dl ns (Rk f)=true)(hm:Lc f=false)(hf:Pm f=false)(hs:es.all Ar=true)
  (h:OB U xc C A X env Γ ms es):SE U xc C A X env Γ (.call f ms) (.Call (.Name (Rk f) np) es [] pos):=by
 intro ρ H s vs Q E x eo hp
 refine BC (Dy ek cx.gf x hn (uc.glo f hm) ?_)
 refine Au (P:=U.K.In) hs (fun h X=>keeps_K (uc.keep f) h X) ?_
 refine h pos ρ H _ vs _ E x eo (hp.bnd (rel1:=NE U) fun v H1 ρ1 v' h1 Bk J l1 x1 r1 AS=> ?_)
 exact⟨cx.gf.K.keeps x1.fr.keep,wpAny_call (ok f A X Ad ρ1 H1 _ v v' _ hf cx x1 r1 AS)⟩
theorem U1(k:Nat):wd k≠"copy":=by
 by_cases h:k < 38
 .intro e
  have:∀k,k < 38->wd k≠"copy":=by decide+kernel
  exact this k h e
 .rw [IX k h]
  intro e
  have:=congrArg PySem.Str.cps e
  have h2:(PySem.Str.ofString "copy").cps=#[99,111,112,121]:=by decide+kernel
  rw[h2]at this
  have:=congrArg Array.size this
  simp at this
theorem Kd.copy{sa:Addr}{ρ:A9}:∀{fs:List (Nat×V)} {es:List DictEntry},Kd sa ρ fs es->getL "copy" es=Option.some Option.none
 | [],[],_=>rfl
 | [],_::_,h=>h.elim
 | _::_,[],h=>h.elim
 | p::r,e::es,⟨⟨t,hk⟩,hv,hr⟩=>by
  have ih:=hr.copy
  unfold getL at ih ⊢
  rw[List.find?_cons,List.any_cons]
  have hs:e.key.isStr "copy"=false:=by
   rw[hk]
   show(wd p.1==_)=false
   exact beq_eq_false_iff_ne.mpr (U1 _)
  have hr:e.refKey=false:=by simp[DictEntry.refKey,hk]
  rw[hs,hr]
  exact ih
structure UM(U:Un)(fa:Fn->Addr):Prop where
 copyG:plainGet U.K (U.cls .vector) "copy"=true
 copyF:findIn U.K (.ref (U.cls .vector)) "copy"=some (some (.ref (fa .AU)))
 isFn:∀f,isFn U.K (.ref (fa f))=true
 makes:∀c,makesIn U.K (U.cls c)=true
 init:∀c,findIn U.K (.ref (U.cls c)) "__init__"=some (some (.ref (fa (initOf c))))
 high:3 < U.cls .null/\(U.K.lookup (U.cls .null)).isSome=true
 keepC:∀c,keepIn U.K (.ref (U.cls c))=true
theorem SG{α β:Type}{rel:A9->α->β->Prop}{Q:β->Shared->Prop}{v:V}{f:V->M α}(hp:Ae rel U xc X ρ (bnd (I3 v) f H) Q E s):∃i fs b,v=.ref i/\H[i]? =some (.inst .vector fs)/\Ae rel U xc X ρ (f b H) Q E s:=
 Bx (P:=fun v=>∃i fs b,v=.ref i/\H[i]? =some (.inst .vector fs)/\Ae rel U xc X ρ (f b H) Q E s) hp.as fun i c e hp=>by
  cases c with
  | inst k fs=>cases k with
   | vector=>exact⟨i,fs,_,rfl,e,hp⟩
   | null=>exact hp.elim
  | _=>exact hp.elim
theorem Vt(uc:UC U fa)(um:UM U fa)(cx:Cx U A X Ad n)(ok:Hm U xc fa n C.call){m1:ME Fn}{o:Expr}(hb:A0 o=true)(hl:(apos.endLine==pos.line)=true)(h1:SE U xc C A X env Γ m1 o):
  SE U xc C A X env Γ (.mcall m1 .AU) (.Call (.Attribute o "copy" apos) [] [] pos):=by
 intro ρ H s vs Q E x eo hp
 refine CP hb rfl (by simp) hl ?_
 refine h1 ρ H s vs _ E x eo (hp.bnd (rel1:=Aq U) fun v H1 ρ1 v' h1 Bk J l1 x1 r1 AS=> ?_)
 intro pl
 obtain⟨i,fs,b,rfl,hc,Cb⟩:=SG AS
 obtain⟨ad,nn,pre,post,e1,⟨es,nd,rfl,hw⟩,N,D,lo,_⟩:=FS.cell x1 hc
 have r1':=r1
 obtain⟨p,ep,rfl⟩:=r1
 rw[e1]at ep;cases ep
 have m1:(ad.1,instObj (U.cls .vector) ad.2) ∈ pre++[(ad.1,instObj (U.cls .vector) ad.2),(ad.2,W.dictOf es nd)]++post:=by simp
 have m2:(ad.2,W.dictOf es nd) ∈ pre++[(ad.1,instObj (U.cls .vector) ad.2),(ad.2,W.dictOf es nd)]++post:=by simp
 refine method_inst (s:={ s with heap:=h1,toks:=Bk}) x1.fr cx.gf.K (W.InstAt.of_news N m1 m2) um.copyG um.copyF (um.isFn _) hw.copy ?_
 refine Au (P:=U.K.In) rfl (fun h X=>keeps_K (uc.keep _) h X) ?_
 exact wpAny_items_nil ⟨cx.gf.K.keeps x1.fr.keep,wpAny_call (ok _ A X Ad ρ1 H1 _ [_] [_] _ rfl cx x1 ⟨r1',trivial⟩ Cb)⟩
noncomputable def DK(A:Around)(n k:Nat):Prop:=A.depth+8 * n+8+k < recursionLimit/\A.units+200 * n+800+20 * k < cLine
noncomputable def Ho(L:Addr)(h:Heap):List (Addr×Obj):=(List.range h.objs.size).filterMap fun b=>if b=L then none else(h.get? b).map (b,·)
theorem IP{L:Addr}{h:Heap}{b:Addr}{o:Obj}(e:h.get? b=some o)(hb:b≠L):(b,o) ∈ Ho L h:=by
 unfold Ho
 refine List.mem_filterMap.mpr ⟨b,List.mem_range.mpr (Heap.lt_size e),?_⟩
 rw[if_neg hb,e];rfl
set_option tactic.hygienic true in
theorem JW{L:Addr}{h:Heap}{p:Addr×Obj}(e:p ∈ Ho L h):h.get? p.1=some p.2/\p.1≠L:=by
 unfold Ho at e
 obtain⟨b,_,hb⟩:=List.mem_filterMap.mp e
 split at hb
 .cases hb
 .rename_i JK
  cases q:h.get? b with
  | none=>rw[q]at hb;cases hb
  | some o=>rw[q]at hb;cases hb;exact⟨q,JK⟩
noncomputable def G8:Heap:={ objs:=#[]}
theorem Jp(b:Addr):G8.get? b=none:=by
 cases e:G8.get? b with
 | none=>rfl
 | some o=>exact absurd (Heap.lt_size e) (Nat.not_lt_zero _)
theorem XG{G h:Heap}{L:Addr}{m:Str->Option Value}(F:Fr G L h m):Fr G8 L h m/\News G8 L h (Ho L h):=
 ⟨⟨F.ns,fun b o e=>by rw[Jp]at e;(cases e),Nat.zero_le _⟩,fun p hp=>⟨(JW hp).1,(JW hp).2,Jp _⟩⟩
theorem Uh{G h h':Heap}{L:Addr}{m m':Str->Option Value}{n:List (Addr×Obj)}(F:Fr G L h m)(F':Fr G8 L h' m')(N':News G8 L h' (n++Ho L h)):Fr G L h' m'/\∀b o,b≠L->h.get? b=some o->h'.get? b=some o:=by
 have k:∀b o,b≠L->h.get? b=some o->h'.get? b=some o:=fun b o hb e=>(N' _ (Da _ (IP e hb))).1
 exact⟨⟨F'.ns,fun b o e=>k b o (fun q=>by subst q;exact absurd (Nat.lt_of_lt_of_le (Heap.lt_size e) F.above) (Nat.lt_irrefl _)) (F.keep b o e),F.above⟩,k⟩
theorem Cx.under(cx:Cx U A X Ad n)(hr:DK A n 1)(c:Addr)(vals:List Value):Cx U (A.under (.builtin "type.__call__" ⟨.ref c::vals,[]⟩)) X Ad n where
 B:=cx.B
 hA:=by
  have:(A.under (.builtin "type.__call__" ⟨.ref c::vals,[]⟩)).frames=A.frames:=by
   obtain⟨hd,d,fr,gs,u⟩:=A
   show pushEnvs [] fr=fr
   rfl
  rw[this];exact cx.hA
 hf:=cx.hf
 hk:=cx.hk
 hh:=cx.hh
 hd:=by rw[depth_under_make];have:=hr.1;exact YT ‹_› (by rfl)
 hu:=by rw[units_under_make];have:=hr.2;exact YT ‹_› (by rfl)
 gf:=cx.gf
theorem Zn(um:UM U fa)(ub:UB U)(cx:Cx U A X Ad n)(hr:DK A n 1)(ek:AJ X Ad env ns)(ok:Hm U xc fa n C.call)(hi:C.initOf=initOf){c:Dx}{ms:List (ME Fn)}{es:List Expr}
  (hn:Dl ns (Str.ofString (FH c))=true) (hs:es.all Ar=true)
  (h:OB U xc C A X env Γ ms es):SE U xc C A X env Γ (.mk c ms) (.Call (.Name (Str.ofString (FH c)) np) es [] pos):=by
 intro ρ H s vs Q E x eo hp
 refine BC (Dy ek cx.gf x hn (ub.cls c) ?_)
 refine Au (P:=U.K.In) hs (fun h X=>keeps_K (um.keepC c) h X) ?_
 refine h pos ρ H _ vs _ E x eo (hp.bnd (rel1:=NE U) fun v H1 ρ1 v' h1 Bk J l1 x1 r1 AS=> ?_)
 have X1:=cx.gf.K.keeps x1.fr.keep
 refine⟨X1,wpAny_call ?_⟩
 obtain⟨FA,NA⟩:=XG x1.fr
 refine make_K (s:={ s with heap:=h1,toks:=Bk}) (K:=U.K) FA NA X1 (um.makes c) (um.init c) (beq_iff_eq.mp (um.isFn _)) fun xa dx h' F' N' dT Qj=> ?_
 obtain⟨F2,k⟩:=Uh (n:=[(xa,instObj (U.cls c) dx),(dx,emptyDict)]) x1.fr F' N'
 obtain⟨l,N,D,sub,back⟩:=FS.all x1
 have k':∀q ∈ l,h'.get? q.1=some q.2:=fun q hq=>k _ _ (N q hq).2.1 (N q hq).1
 have Zz:∀b o,b≠X.L->h1.get? b=some o->b < dx:=fun b o hb e=>dT _ (IP e hb)
 have high:3 < dx:=by
  obtain⟨o,ho⟩:=Option.isSome_iff_exists.mp um.high.2
  have e:X.G.get? (U.cls .null)=some o:=cx.gf.K _ _ ho
  exact Nat.lt_trans um.high.1 (Zz _ o (fun q=>absurd (Nat.lt_of_lt_of_le (Heap.lt_size e) x1.fr.above) (by rw[q];exact Nat.lt_irrefl _)) (x1.fr.keep _ _ e))
 have fresh:∀b,(∃o,h'.get? b=some o)->dx<=b->b≠X.L->X.G.get? b=none:=fun b J hb hL=>by
  cases q:X.G.get? b with
  | none=>rfl
  | some o=>exact absurd (Zz b o hL (x1.fr.keep _ _ q)) (Nat.not_lt.mpr hb)
 have nx:=N' (xa,instObj (U.cls c) dx) (.head _)
 have nd:=N' (dx,emptyDict) (.tail _ (.head _))
 have N2:News X.G X.L h' ([(xa,instObj (U.cls c) dx),(dx,emptyDict)]++l):=by
  intro p hp
  rcases List.mem_append.mp hp with hp | hp
  .rcases List.mem_cons.mp hp with rfl | hp
   .exact ⟨nx.1,nx.2.1,fresh _ ⟨_,nx.1⟩ (Nat.le_of_lt Qj) nx.2.1⟩
   .rw [List.mem_singleton.mp hp]
    exact⟨nd.1,nd.2.1,fresh _ ⟨_,nd.1⟩ (Nat.le_refl _) nd.2.1⟩
  .exact ⟨k' p hp,(N p hp).2⟩
 have x2:AL U X (ρ1++[(xa,dx)]) (H1++[.inst c []]) h':=back (.inst c []) (xa,dx) [(xa,instObj (U.cls c) dx),(dx,emptyDict)] h' F2 N2 (fun p hp q hq=>by
   have:q.1 < dx:=Zz _ _ (N q hq).2.1 (N q hq).1
   rcases List.mem_cons.mp hp with rfl | hp
   .exact Nat.lt_trans this Qj
   .rw [List.mem_singleton.mp hp];exact this) (by
   unfold By
   simp only [List.map_cons,List.map_nil,List.nodup_cons,List.mem_singleton,List.not_mem_nil,not_false_eq_true,List.nodup_nil,and_true]
   exact Nat.ne_of_gt Qj) (fun p hp=>by
   rcases List.mem_cons.mp hp with rfl | hp
   .exact Nat.lt_trans high Qj
   .rw [List.mem_singleton.mp hp];exact high) ⟨[],0,rfl,trivial⟩
 have Ba:=FS.len x1
 have rx:Aq U (ρ1++[(xa,dx)]) (.ref H1.length) (.ref xa):=⟨(xa,dx),by rw[<-Ba];simp,rfl⟩
 have e0:alloc (.inst c []) H1=.ok (.ref H1.length) (H1++[.inst c []]):=rfl
 unfold Ae bnd at AS
 rw[e0]at AS
 dsimp only at AS
 rw[hi]at AS
 refine ok (initOf c) _ X Ad (ρ1++[(xa,dx)]) (H1++[.inst c []]) _ (.ref H1.length::v) (.ref xa::v') _ (by cases c<;>rfl) (cx.under hr _ _) x2 ⟨rx,r1.mono (List.prefix_append ..)⟩ ?_
 unfold Ae
 unfold still at AS
 cases q:C.call (initOf c) (.ref H1.length::v) (H1++[.inst c []])with
 | ok w H2=>
  rw[q]at AS
  dsimp only at AS ⊢
  by_cases hw:w=.none
  .rw [if_pos hw]at AS
   subst hw
   intro ρ3 w' h3 tk3 l3 x3 r3
   cases r3
   exact⟨rfl,AS ρ3 (.ref xa) h3 tk3 ((List.prefix_append ..).trans l3) x3 (rx.mono l3)⟩
  .rw [if_neg hw]at AS;exact AS.elim
 | exc e H2=>rw[q]at AS;exact AS.elim
 | bad=>rw[q]at AS;exact AS.elim
section
variable{ex:List (Addr×Obj)}{a:Addr}{o o':Obj}
noncomputable abbrev Fx.withEx(X:Fx)(ex:List (Addr×Obj)):Fx:={ X with ex:=ex}
theorem FS.setEx{pre post:List (Addr×Obj)}(x:AL U X ρ H h)(e:X.ex=pre++(a,o)::post)(hs:Heap.SameBut a h h')(ho:h'.get? a=some o'):AL U (X.withEx (pre++(a,o')::post)) ρ H h':=by
 obtain⟨F,ps,p,N,D,lo⟩:=x
 have w:X.px++ps.flatten=(X.own++pre)++(a,o)::(post++ps.flatten):=by simp[Fx.px,e]
 rw[w]at N D
 obtain⟨h1,h2⟩:(∀q ∈ X.own++pre,q.1≠a)/\∀q ∈ post++ps.flatten,q.1≠a:=by
  unfold By at D
  rw[List.map_append,List.map_cons]at D
  have d2:=(List.nodup_append.mp D)
  refine⟨fun q hq=>d2.2.2 q.1 (List.mem_map_of_mem hq) a (.head _),fun q hq e=> ?_⟩
  have:=(List.nodup_cons.mp d2.2.1).1
  exact this (e▸List.mem_map_of_mem (f:=(·.1)) hq)
 have z:=N (a,o) (Da _ (.head _))
 refine⟨F.change hs z.2.1 z.2.2,ps,p,?_,?_,lo⟩
 .have:=N.setAt h1 h2 hs ho
  simpa [Fx.px,  e]using this
 .have:=Hp (o':=o') D
  simpa [Fx.px]using this
theorem FS.addEx(x:AL U X ρ H h)(k:∀b o,h.get? b=some o->h'.get? b=some o)(ho:h'.get? a=some o)(ha:h.objs.size<=a):AL U (X.withEx ((a,o)::X.ex)) ρ H h':=by
 obtain⟨F,ps,p,N,D,lo⟩:=x
 have hL:X.L < a:=Nat.lt_of_lt_of_le F.ns.lt ha
 have hG:X.G.get? a=none:=by
  cases q:X.G.get? a with
  | none=>rfl
  | some o=>exact absurd (Heap.lt_size q) (Nat.not_lt.mpr (Nat.le_trans F.above (Nat.le_of_lt hL)))
 refine⟨F.keeps k,ps,p,?_,?_,lo⟩
 .intro q hq
  simp only [Fx.px,  List.append_assoc,List.cons_append,List.mem_append,List.mem_cons]at hq
  rcases hq with hq | rfl | hq | hq
  .exact (N.grown k) q (by simp[Fx.px,hq])
  .exact ⟨ho,Nat.ne_of_gt hL,hG⟩
  .exact (N.grown k) q (by simp[Fx.px,hq])
  .exact (N.grown k) q (Da _ hq)
 .have:By ((a,o)::(X.px++ps.flatten)):=by
   unfold By at D ⊢
   rw[List.map_cons,List.nodup_cons]
   refine⟨fun hm=> ?_,D⟩
   obtain⟨q,hq,e⟩:=List.mem_map.mp hm
   exact absurd (Heap.lt_size (N q hq).1) (Nat.not_lt.mpr (by rw[e];exact ha))
  refine BQ ?_ this
  simp only [Fx.px,  List.append_assoc,List.cons_append]
  exact List.perm_middle.symm
theorem FS.dropEx(x:AL U (X.withEx ((a,o)::ex)) ρ H h)(hs:Heap.ExtBut a h h'):AL U (X.withEx ex) ρ H h':=by
 obtain⟨F,ps,p,N,D,lo⟩:=x
 have w:(X.withEx ((a,o)::ex)).px++ps.flatten=X.own++(a,o)::(ex++ps.flatten):=by simp[Fx.px]
 rw[w]at N D
 obtain⟨h1,h2⟩:(∀q ∈ X.own,q.1≠a)/\∀q ∈ ex++ps.flatten,q.1≠a:=by
  unfold By at D
  rw[List.map_append,List.map_cons]at D
  have d2:=(List.nodup_append.mp D)
  refine⟨fun q hq=>d2.2.2 q.1 (List.mem_map_of_mem hq) a (.head _),fun q hq e=> ?_⟩
  have:=(List.nodup_cons.mp d2.2.1).1
  exact this (e▸List.mem_map_of_mem (f:=(·.1)) hq)
 have z:=N (a,o) (Da _ (.head _))
 have hL:X.L≠a:=Ne.symm z.2.1
 refine⟨⟨F.ns.extBut hs hL,fun b o e=>hs b o (fun q=> ?_) (F.keep b o e),F.above⟩,ps,p,?_,?_,lo⟩
 .subst q;have:=z.2.2;dsimp only at e;rw[e]at this;cases this
 .intro q hq
  have hq':q ∈ X.own\/q ∈ ex++ps.flatten:=by simpa [Fx.px,  or_assoc]using hq
  rcases hq' with hq' | hq'
  .have y:=N q (B0 _ hq')
   exact⟨hs _ _ (h1 q hq') y.1,y.2⟩
  .have y:=N q (Da _ (.tail _ hq'))
   exact⟨hs _ _ (h2 q hq') y.1,y.2⟩
 .have:=BQ (List.perm_middle (l₁:=X.own) (a:=(a,o)) (l₂:=ex++ps.flatten)) D
  have d3:By (X.own++(ex++ps.flatten)):=by
   unfold By at this ⊢
   rw[List.map_cons,List.nodup_cons]at this
   exact this.2
  simpa [Fx.px]using d3
theorem FS.dropEx0(x:AL U (X.withEx ((a,o)::ex)) ρ H h):AL U (X.withEx ex) ρ H h:=x.dropEx fun J J J e=>e
theorem FS.adopt{c:Af}(x:AL U (X.withEx ((a,o)::ex)) ρ H h)(y:CR U (ρ++[(a,a)]) c (a,a) [(a,o)])(ha:3 < a):AL U (X.withEx ex) (ρ++[(a,a)]) (H++[c]) h:=by
 obtain⟨F,ps,p,N,D,lo⟩:=x
 have pm:((X.withEx ((a,o)::ex)).px++ps.flatten).Perm ((X.withEx ex).px++(ps++[[(a,o)]]).flatten):=by
  have e1:(X.withEx ((a,o)::ex)).px++ps.flatten=X.own++(a,o)::(ex++ps.flatten):=by simp[Fx.px]
  have e2:(X.withEx ex).px++(ps++[[(a,o)]]).flatten=(X.own++(ex++ps.flatten))++[(a,o)]:=by simp[Fx.px]
  rw[e1,e2]
  exact(List.perm_middle (l₁:=X.own) (a:=(a,o)) (l₂:=ex++ps.flatten)).trans (List.perm_append_comm (l₁:=[(a,o)]) (l₂:=X.own++(ex++ps.flatten)))
 refine⟨F,ps++[[(a,o)]],(p.mono (List.prefix_append ..)).push y,?_,BQ pm D,?_⟩
 .exact DE N fun q hq=>pm.symm.subset hq
 .intro q hq
  simp only [List.flatten_append,List.flatten_cons,List.flatten_nil,List.append_nil,List.mem_append,List.mem_singleton]at hq
  rcases hq with hq | rfl
  .exact lo q hq
  .exact ha
theorem FS.exGet(x:AL U X ρ H h){p:Addr×Obj}(hp:p ∈ X.ex):h.get? p.1=some p.2:=by
 obtain⟨F,ps,_,N,_,_⟩:=x
 exact(N p (B0 _ (Da _ hp))).1
end
noncomputable def Bl(cells:List (Str×Addr)):Dm->List (Str×Addr)->List (Str×Addr)
 | [],cs=>cs
 | (x,k)::r,cs=>Bl cells r (if k== .free then(x,(cells.lookup x).getD 0)::cs else cs)
theorem CC{scope:Scope}{env:PySem.Env}(h:∀p ∈ scope.names,p.2=.free->(env.cells.lookup p.1).isSome=true):closureFor scope env=pure (Bl env.cells scope.names []):=by
 unfold closureFor
 have step:∀(l:Dm) (cs:List (Str×Addr)),(∀p ∈ l,p.2=.free->(env.cells.lookup p.1).isSome=true)->
   (forIn l cs (fun(p:Str×NameKind) (cs:List (Str×Addr))=>(do
    if p.2== .free then do
     let c <-cellOf env p.1
     pure (ForInStep.yield ((p.1,c)::cs))
    else pure (ForInStep.yield cs):Sem (ForInStep (List (Str×Addr))))))=pure (Bl env.cells l cs):=by
  intro l
  induction l with
  | nil=>intro cs _;rfl
  | cons p r ih=>
   intro cs hp
   obtain⟨x,k⟩:=p
   rw[List.forIn_cons]
   have hr:=ih (if k== .free then(x,(env.cells.lookup x).getD 0)::cs else cs) fun p hp'=>hp p (.tail _ hp')
   unfold Bl
   by_cases hk:k=.free
   .subst hk
    have hs:=hp (x,.free) (.head _) rfl
    obtain⟨c,hc⟩:=Option.isSome_iff_exists.mp hs
    dsimp only at hc
    simp only [beq_self_eq_true,if_true]at hr ⊢
    unfold cellOf
    rw[hc]at hr ⊢
    simp only [pure_bind,Option.getD_some]at hr ⊢
    exact hr
   .have hk':(k==NameKind.free)=false:=beq_eq_false_iff_ne.mpr hk
    simp only [hk',Bool.false_eq_true,if_false,pure_bind]at hr ⊢
    exact hr
 have:=step scope.names [] h
 simpa using this
theorem CF{cells:List (Str×Addr)}{x:Str}:∀(l:Dm) (cs:List (Str×Addr)),(∀p ∈ l,p.2=.free->(cells.lookup p.1).isSome=true)->(x,NameKind.free) ∈ l\/cs.lookup x=cells.lookup x->(cs.lookup x=none\/cs.lookup x=cells.lookup x)->
  (Bl cells l cs).lookup x=cells.lookup x
 | [],cs,_,h,_=>by
  rcases h with h | h
  .cases h
  .exact h
 | (y,k)::r,cs,hp,h,h2=>by
  unfold Bl
  by_cases hk:k=.free
  .subst hk
   simp only [beq_self_eq_true,if_true]
   obtain⟨c,hc⟩:=Option.isSome_iff_exists.mp (hp (y,.free) (.head _) rfl)
   dsimp only at hc
   by_cases hy:x=y
   .subst hy
    have e:List.lookup x ((x,(cells.lookup x).getD 0)::cs)=cells.lookup x:=by rw[List.lookup_cons,beq_self_eq_true];rw[hc];rfl
    exact CF r _ (fun p hp'=>hp p (.tail _ hp')) (.inr e) (.inr e)
   .have e:List.lookup x ((y,(cells.lookup y).getD 0)::cs)=cs.lookup x:=by
     rw[List.lookup_cons,beq_eq_false_iff_ne.mpr hy]
    refine CF r _ (fun p hp'=>hp p (.tail _ hp')) ?_ (by rw[e];exact h2)
    rcases h with h | h
    .rcases List.mem_cons.mp h with h | h
     .exact absurd (Prod.mk.inj h).1 hy
     .exact .inl h
    .exact .inr (by rw[e];exact h)
  .have hk':(k==NameKind.free)=false:=beq_eq_false_iff_ne.mpr hk
   simp only [hk',Bool.false_eq_true,if_false]
   refine CF r _ (fun p hp'=>hp p (.tail _ hp')) ?_ h2
   rcases h with h | h
   .rcases List.mem_cons.mp h with h | h
    .exact absurd (Prod.mk.inj h).2.symm hk
    .exact .inl h
   .exact .inr h
structure Yh(U:Un)(A:Around)(I:Addr)(items:List V)(Ready:MH->Prop)(ρ0:A9)(st:Nat->Obj->Prop):Prop where
 item:∀(k:Nat) (X:Fx) (ρ:A9) (H:MH) (s:Shared) (o:Obj) (v:V) (E:Value->Shared->Prop) (Q:Option Value->Shared->Prop),ρ0 <+:ρ->items[k]? =some v->AL U X ρ H s.heap->s.heap.get? I=some o->st k o->Ready H->
  (∀v' h' o' tk,Aq U ρ v v'->Heap.SameBut I s.heap h'->h'.get? I=some o'->st (k+1) o'->Q (some v') { s with heap:=h',toks:=tk})->wpAny (model U.prog U.w) A (pyNext (.ref I)) Q E s
 done:∀(X:Fx) (ρ:A9) (H:MH) (s:Shared) (o:Obj) (E:Value->Shared->Prop) (Q:Option Value->Shared->Prop),ρ0 <+:ρ->AL U X ρ H s.heap->s.heap.get? I=some o->st items.length o->Ready H->
  (∀h',Heap.ExtBut I s.heap h'->Q none { s with heap:=h'})->wpAny (model U.prog U.w) A (pyNext (.ref I)) Q E s
 self:∀(k:Nat) (s:Shared) (o:Obj) (E:Value->Shared->Prop) (Q:Value->Shared->Prop),s.heap.get? I=some o->st k o->Q (.ref I) s->wpAny (model U.prog U.w) A (pyIter (.ref I)) Q E s
theorem Mc(hh:A.handled=none){i:Nat}{p:Addr×Addr}{xs:List V}{I:Addr}(ep:ρ0[i]? =some p):
  Yh U A I xs (fun H=>H[i]? =some (.list xs)) ρ0 (fun k o=>o.cls=.type "list_iterator"/\o.data=.fields #[.ref p.1,.int k 0]) where
 item:=fun k X ρ H s o v E Q l ev x ho st rd hq=>by
  obtain⟨a,e1,_,vs,il,vv⟩:=FS.at x rd
  rw[Di l ep]at e1;cases e1
  obtain⟨y,ey,hy⟩:=vv.get ev
  refine wpAny_pyNext_list_item (i:=k) ⟨o,ho,st.1,st.2⟩ il (x:=y) (by rw[List.getElem?_toArray];exact ey) fun h' hit hs=> ?_
  obtain⟨o',ho',c1,c2⟩:=hit
  exact hq y h' o' s.toks hy hs ho' ⟨c1,c2⟩
 done:=fun X ρ H s o E Q l x ho st rd hq=>by
  obtain⟨a,e1,_,vs,il,vv⟩:=FS.at x rd
  rw[Di l ep]at e1;cases e1
  exact wpAny_pyNext_list_end hh (i:=xs.length) ⟨o,ho,st.1,st.2⟩ il (by rw[List.getElem?_toArray,List.getElem?_eq_none];rw[vv.length];exact Nat.le_refl _) hq
 self:=fun k s o E Q ho st hq=>wpAny_pyIter_listiter (i:=k) ⟨o,ho,st.1,st.2⟩ hq
theorem LA(hh:A.handled=none){i:Nat}{p:Addr×Addr}{kvs:List (Nat×V)}{I:Addr}{od:Obj}{ep:Nat}{es:List (Str×Value)}(e0:ρ0[i]? =some p)(hp:U.pin p.1=some od)
  (hd:od.ExactDict/\∃es',od.data=.dict es' ep/\KeysOf (PySem.strKind U.prog U.w) es'/\Pairs (PySem.strKind U.prog U.w) es'.toList es/\(es.map (·.1)).Nodup) (hk:es.map (·.1)=kvs.map fun q=>wd q.1) (hl:es.length=kvs.length):
  Yh U A I (kvs.map fun p=> .w p.1) (fun H=>H[i]? =some (.dictP kvs)) ρ0 (fun k o=>o.cls=.type "dict_keyiterator"/\o.data=.fields #[.ref p.1,.int k 0,.int es.length 0,.int ep 0]) where
 item:=fun k X ρ H s o v E Q l ev x ho st rd hq=>by
  obtain⟨a,e1,_,o2,es2,hg,_,_,Cb⟩:=FS.at x rd
  rw[Di l e0]at e1;cases e1
  rw[hp]at Cb;cases Cb
  obtain⟨x1,es',x2,x3,x4,x5⟩:=hd
  have hm:s.heap.DictAt (PySem.strKind U.prog U.w) p.1 es ep:=⟨od,es',hg,x1,x2,x3,x4,x5⟩
  have Ef:k < kvs.length:=by have:=(Er.mp ev).1;simpa using this
  have hx:es[k]? =some (es[k]'(by rw[hl];exact Ef)):=List.getElem?_eq_getElem _
  generalize hkv:es[k]'(by rw[hl];exact Ef)=kv at hx
  obtain⟨kk,vv⟩:=kv
  refine wpAny_pyNext_dict_item (i:=k) ⟨o,ho,st.1,st.2⟩ hm hx fun key h' A3 hit hs=> ?_
  obtain⟨o',ho',c1,c2⟩:=hit
  refine hq key h' o' s.toks ?_ hs ho' ⟨c1,c2⟩
  rw[List.getElem?_map,List.getElem?_eq_getElem Ef]at ev
  cases ev
  have e2:kk=wd kvs[k].1:=by
   have:=congrArg (fun l=>l[k]?) hk
   simp only [List.getElem?_map,hx,List.getElem?_eq_getElem Ef,Option.map_some]at this
   exact Option.some.inj this
  subst e2
  have:(PySem.strKind U.prog U.w).is (wd kvs[k].1) key=true:=A3
  cases key<;>simp[PySem.strKind,Value.isStrOf]at this
  subst this
  exact⟨_,rfl⟩
 done:=fun X ρ H s o E Q l x ho st rd hq=>by
  obtain⟨a,e1,_,o2,es2,hg,_,_,Cb⟩:=FS.at x rd
  rw[Di l e0]at e1;cases e1
  rw[hp]at Cb;cases Cb
  obtain⟨x1,es',x2,x3,x4,x5⟩:=hd
  have hm:s.heap.DictAt (PySem.strKind U.prog U.w) p.1 es ep:=⟨od,es',hg,x1,x2,x3,x4,x5⟩
  refine wpAny_pyNext_dict_end hh (i:=(kvs.map fun p=>V.w p.1).length) ⟨o,ho,st.1,st.2⟩ hm ?_ hq
  rw[List.getElem?_eq_none]
  simp[hl]
 self:=fun k s o E Q ho st hq=>wpAny_pyIter_keyiter (i:=k) (d:=p.1) (n:=es.length) (ep:=ep) ⟨o,ho,st.1,st.2⟩ hq
theorem Fw(hh:A.handled=none){I:Addr}{lo hi:Int}:
  Yh U A I (BV lo hi) (fun J=>True) ρ0 (fun k o=>o={ cls:= .type "range_iterator",dict:=none,data:= .fields #[rawInt (lo+k),rawInt (((hi - lo).toNat:Int) - k),rawInt 1],slots:=#[]}) where
 item:=fun k X ρ H s o v E Q l ev x ho st rd hq=>by
  subst st
  have Ef:k < (hi - lo).toNat:=by have:=(Er.mp ev).1;simpa [BV]using this
  refine wpAny_pyNext_range_item ho (by exact e4 ‹_›) fun h' hit hs=> ?_
  refine hq _ h' _ _ ?_ hs hit ?_
  .have:v=.int (lo+k):=by
    unfold BV at ev
    rw[List.getElem?_map,List.getElem?_range Ef]at ev
    cases ev;rfl
   subst this
   exact⟨_,rfl⟩
  .have e1:lo+(k:Int)+1=lo+((k+1:Nat):Int):=by push_cast;exact Int.add_assoc _ _ _
   have e2:(((hi - lo).toNat:Nat):Int) - (k:Int) - 1=(((hi - lo).toNat:Nat):Int) - ((k+1:Nat):Int):=by push_cast;exact e3
   rw[e1,e2]
 done:=fun X ρ H s o E Q l x ho st rd hq=>by
  subst st
  refine wpAny_pyNext_range_end hh ho ?_ hq
  simp[BV]
 self:=fun k s o E Q ho st hq=>by subst st;exact wpAny_pyIter_rangeiter ho hq
noncomputable def Hu(ns:Dm)(Γ:List Str)(sc:Scope)(x:Str):Bool:=
 sc.kind== .function&&(sc.names.all fun p=>match p.2 with
  | .free=>ns.lookup p.1==some .cell||ns.lookup p.1==some .free
  | .local=>(p.1==x||p.1==(".0":Str))&&sc.names.lookup p.1==some .local
  | .cell=>false
  | _=>true)&&sc.names.lookup x==some .local&& !Γ.contains x&& !Γ.contains (".0":Str)
theorem Gd{x:Str}{k:NameKind}:∀{l:Dm},l.lookup x=some k->(x,k) ∈ l
 | [],h=>by cases h
 | (y,j)::r,h=>by
  rw[List.lookup_cons]at h
  cases q:x==y with
  | true=>rw[q]at h;cases h;rw[beq_iff_eq.mp q];exact .head _
  | false=>rw[q]at h;exact .tail _ (Gd h)
section
variable{sc:Scope}{x:Str}{Cd:Addr}
structure ET(ns:Dm)(Γ:List Str)(sc:Scope)(x:Str):Prop where
 kind:sc.kind=.function
 free:∀p ∈ sc.names,p.2=.free->ns.lookup p.1=some .cell\/ns.lookup p.1=some .free
 loc:∀p ∈ sc.names,p.2=.local->(p.1=x\/p.1=".0")/\sc.names.lookup p.1=some .local
 cell:∀p ∈ sc.names,p.2≠.cell
 it:sc.names.lookup x=some .local
 out:x ∉ Γ
 out0:Str.ofString ".0" ∉ Γ
theorem Fy(h:Hu ns Γ sc x=true):ET ns Γ sc x:=by
 unfold Hu at h
 simp only [DN,List.all_eq_true,Bool.not_eq_true',List.contains_eq_mem,decide_eq_false_iff_not]at h
 obtain⟨⟨⟨⟨h1,h2⟩,h3⟩,h4⟩,h5⟩:=h
 refine⟨by simpa using h1,fun p hp e=> ?_,fun p hp e=> ?_,fun p hp e=> ?_,by simpa using h3,h4,h5⟩
 .have:=h2 p hp;rw[e]at this;simpa [Bool.or_eq_true]using this
 .have:=h2 p hp;rw[e]at this;simpa [Bool.or_eq_true,DN]using this
 .have:=h2 p hp;rw[e]at this;cases this
theorem DT(env:PySem.Env)(y:Str):∀{names:Dm} {k:NameKind},(names.map fun(n,k)=>if (k==NameKind.free&&env.scope.kind== .function&&env.kindOf n==some .cell)then(n,NameKind.cell)else(n,k)).lookup y=some k->
  ∃k₀,names.lookup y=some k₀/\(k=k₀\/(k=.cell/\k₀=.free))
 | [],k,h=>by simp at h
 | (n,j)::r,k,h=>by
  rw[List.map_cons]at h
  by_cases hc:(j==NameKind.free&&env.scope.kind== .function&&env.kindOf n==some .cell)=true
  .dsimp only at h
   rw[if_pos hc,List.lookup_cons]at h
   rw[List.lookup_cons]
   cases q:y==n with
   | true=>
    rw[q]at h;cases h
    rw[DN,DN]at hc
    exact⟨j,rfl,.inr ⟨rfl,by simpa using hc.1.1⟩⟩
   | false=>rw[q]at h;exact DT env y h
  .dsimp only at h
   rw[if_neg hc,List.lookup_cons]at h
   rw[List.lookup_cons]
   cases q:y==n with
   | true=>rw[q]at h;cases h;exact⟨_,rfl,.inl rfl⟩
   | false=>rw[q]at h;exact DT env y h
theorem C8(ek:AJ X Ad env ns)(k:ET ns Γ sc x):
  ∀p ∈ sc.names,p.2=.free->(env.cells.lookup p.1).isSome=true:=fun p hp e=>ek.hc p.1 (by
 have:=k.free p hp e
 unfold PySem.Env.kindOf
 rw[ek.names];exact this)
theorem IL(ek:AJ X Ad env ns)(k:ET ns Γ sc x)(Cd:Addr):AJ X Ad (compEnvC sc (Bl env.cells sc.names []) Cd env) (relabel sc env).names:=
 ⟨rfl,k.kind,ek.glo,ek.blt,ek.frm,fun y hy=>by
  obtain⟨kd,hk,hd⟩:∃kd,(compEnvC sc (Bl env.cells sc.names []) Cd env).kindOf y=some kd/\(kd=.cell\/kd=.free):=by
   rcases hy with e | e
   .exact ⟨_,e,.inl rfl⟩
   .exact ⟨_,e,.inr rfl⟩
  obtain⟨k₀,h1,h2⟩:=DT env y hk
  have hm₀:=Gd h1
  have hf:k₀=.free:=by
   rcases h2 with rfl | ⟨_,h⟩
   .rcases hd with rfl | rfl
    .exact absurd rfl (k.cell _ hm₀)
    .rfl
   .exact h
  subst hf
  show((Bl env.cells sc.names []).lookup y).isSome=true
  rw[CF sc.names [] (C8 ek k) (.inl hm₀) (.inl rfl)]
  exact C8 ek k _ hm₀ rfl⟩
theorem K0(ek:AJ X Ad env ns)(k:ET ns Γ sc x)
  (eo:EO U X ρ env Γ vs) (l:ρ <+:ρ') {ex':List (Addr×Obj)} (hex:∀p ∈ X.ex,p ∈ ex') {oC:Obj} {mC:Str->Option Value} (hm:(Cd,oC) ∈ ex') (Dn:∀h:Heap,h.get? Cd=some oC->h.Ns Cd mC) {v:V} {v':Value} (hv:Aq U ρ' v v') (hx:mC x=some v'):
  EO U (X.withEx ex') ρ' (compEnvC sc (Bl env.cells sc.names []) Cd env) (Γ++[x]) (vs++[some v]):=by
 have kx:(compEnvC sc (Bl env.cells sc.names []) Cd env).kindOf x=some .local:=lookup_relabel_local k.it
 refine⟨by simp[eo.len],fun i w y hw hy hvis=> ?_⟩
 by_cases hi:i < Γ.length
 .rw [List.getElem?_append_left hi]at hy
  rw[List.getElem?_append_left (by rw[eo.len];exact hi)]at hw
  have hmem:y ∈ Γ:=List.mem_of_getElem? hy
  cases hk:(compEnvC sc (Bl env.cells sc.names []) Cd env).kindOf y with
  | none=>rw[hk]at hvis;cases hvis
  | some kd=>
   rw[hk]at hvis
   obtain⟨k₀,h1,h2⟩:=DT env y hk
   have hm₀:=Gd h1
   have hfree:k₀=.free:=by
    cases k₀ with
    | free=>rfl
    | «local»=>
     rcases(k.loc _ hm₀ rfl).1 with e | e
     .exact absurd (show x ∈ Γ from(show y=x from e)▸hmem) k.out
     .exact absurd (show Str.ofString ".0" ∈ Γ from(show y=_ from e)▸hmem) k.out0
    | cell=>exact absurd rfl (k.cell _ hm₀)
    | globalExplicit=>rcases h2 with rfl | ⟨_,h⟩<;>first | cases hvis | cases h
    | globalImplicit=>rcases h2 with rfl | ⟨_,h⟩<;>first | cases hvis | cases h
   subst hfree
   have hout:env.kindOf y=some .cell\/env.kindOf y=some .free:=by
    unfold PySem.Env.kindOf
    rw[ek.names];exact k.free _ hm₀ rfl
   have hvis2:bF (env.kindOf y)=true:=by rcases hout with e | e<;>rw[e]<;>rfl
   obtain⟨z,hz,lz⟩:=eo.get i w y hw hy hvis2
   refine⟨z,hz.mono l,.inr (.inl ⟨?_,?_⟩)⟩
   .rcases h2 with rfl | ⟨rfl,_⟩
    .exact .inr hk
    .exact .inl hk
   .rcases lz with⟨e,_⟩ | ⟨_,c,o,h1,h2,h3⟩ | ⟨e,_⟩
    .rcases hout with e2 | e2<;>rw[e]at e2<;>cases e2
    .refine ⟨c,o,?_,?_,h3⟩
     .show (Bl env.cells sc.names []).lookup y=some c
      rw[CF sc.names [] (C8 ek k) (.inl hm₀) (.inl rfl),h1]
     .rcases List.mem_append.mp h2 with h2 | h2
      .exact B0 _ h2
      .exact Da _ (hex _ h2)
    .rcases hout with e2 | e2<;>rw[e]at e2<;>cases e2
 .have hi':i=Γ.length:=by
   have:=(Er.mp hy).1
   simp at this;exact eA ‹_› ‹_›
  subst hi'
  have ey:y=x:=by simpa using hy.symm
  subst ey
  have ew:w=v:=by rw[<-eo.len]at hw;simpa using hw.symm
  subst ew
  exact⟨v',hv,.inr (.inr ⟨kx,oC,mC,Da _ hm,Dn,hx⟩)⟩
end
theorem Ae.later{α β:Type}{rel:A9->α->β->Prop}{r:R α}{Q:β->Shared->Prop}{ρ1:A9}(hp:Ae rel U xc X ρ r Q E s)(l:ρ <+:ρ1)(h:Heap)(tk:Nat):Ae rel U xc X ρ1 r Q E { s with heap:=h,toks:=tk}:=by
 cases r with
 | ok a H=>exact fun ρ' v' h' CG l'=>hp ρ' v' h' CG (l.trans l')
 | exc e H=>exact fun ρ' v' h' CG l'=>hp ρ' v' h' CG (l.trans l')
 | bad=>exact hp
noncomputable abbrev Xs(U:Un):A9->Option V->Option Value->Prop:=fun ρ o o'=>match o,o' with
 | some v,some y=>Aq U ρ v y
 | none,none=>True
 | _,_=>False
theorem JO{β:Type}(f:V->M (Option V))(post:M Unit)(v:V)(r:List V)(K:List V->M β):
  bnd (still (Bv f post (v::r))) K H=bnd (still (f v)) (fun y=>bnd (still post) fun J=>bnd (still (Bv f post r)) fun zs=>K (y.toList++zs)) H:=by
 rw[Bv]
 simp only [bnd,still]
 cases f v H with
 | ok y H1=>
  dsimp only
  cases post H1 with
  | ok u H2=>
   dsimp only
   cases Bv f post r H2<;>rfl
  | _=>rfl
 | _=>rfl
theorem GV{α β:Type}{m:M α}{f:α->M β}{a:α}{H1:MH}(e:m H=.ok a H1):bnd (still m) f H=f a H1:=by
 simp only [bnd,still,e]
theorem Hh{α β:Type}{m:M α}{f:α->M β}{a:Nat}{H1:MH}(e:m H=.exc a H1):bnd (still m) f H=.bad:=by
 simp only [bnd,still,e]
theorem Ev{α β:Type}{m:M α}{f:α->M β}(e:m H=.bad):bnd (still m) f H=.bad:=by
 simp only [bnd,still,e]
noncomputable def Gk(zs:List V):M V:=if zs.length<=BR then alloc (.list zs)else bad
inductive P7(U:Un)(xc:Value)(X:Fx)(ρ0:A9)(items:List V)(Ready:MH->Prop)(st:Nat->Obj->Prop)(f:V->M (Option V))(post:M Unit)(I Cd D:Addr)(Qf:Value->Shared->Prop)(s0:Shared)(r0:R V)(n:Nat)(s':Shared):Prop
 | mk (k:_) (ρk:_) (Hk:_) (h:_) (tk:_) (ys:_) (ws:_) (oI:_) (oC:_) (mC:_) (nD:_) (q0:s'={ s0 with heap:=h,toks:=tk}) (q1:n=items.length+1 - k) (q2:k<=items.length) (q3:ρ0 <+:ρk) (q4:AL U (X.withEx ((Cd,oC)::(I,oI)::(D,listOf (List.toArray ws) nD)::X.ex)) ρk Hk h) (q5:st k oI) (q6:(∀g:Heap,g.get? Cd=some oC->g.Ns Cd mC)) (q7:C3 U.sa ρk ys ws) (q8:ys.length<=k) (q9:Ready Hk) (q10:Ae (Aq U) U xc X ρk (bnd (still (Bv f post (items.drop k))) (fun zs=>Gk (ys++zs)) Hk) Qf (fun J J=>False) s') (q11:bnd (still (Bv f post (items.drop k))) (fun zs=>Gk (ys++zs)) Hk=r0):P7 U xc X ρ0 items Ready st f post I Cd D Qf s0 r0 n s'
theorem Jl{elt iter:Expr}{nm:Str}{px:Pos}{ifs:List Expr}{scope:Scope}{pos:Pos}{cenv:PySem.Env}{I Cd D:Addr}{items:List V}{Ready:MH->Prop}{st:Nat->Obj->Prop}{f:V->M (Option V)}{post:M Unit}
  {Qf:Value->Shared->Prop} {R:Result->Shared->Prop} {s0:Shared} {r0:Mine.R V} (Ba:items.length<=BR) (hD3:3 < D)
  (src:Yh U A I items Ready ρ0 st) (hpost:∀H,(post H=.ok () H/\Ready H)\/post H=.bad)
  (hx:cenv.kindOf nm=some .local) (hp:(cenv.scope.kind== .class||(cenv.scope.kind== .module&&cenv.locals != cenv.globals))=false) (hCd:cenv.locals=Cd)
  (turn:∀(ex':List (Addr×Obj)) ρ H s v v' (QQ:Option Value->Shared->Prop) E' oC mC,ρ0 <+:ρ->(∀p ∈ X.ex,p ∈ ex')->AL U (X.withEx ex') ρ H s.heap->Aq U ρ v v'->(Cd,oC) ∈ ex'->(∀g:Heap,g.get? Cd=some oC->g.Ns Cd mC)->mC nm=some v'->
   Ae (Xs U) U xc (X.withEx ex') ρ (f v H) QQ E' s->
   wpAny (model U.prog U.w) A (forIn ifs true fun c r=>if r=true then do let ok <-isTrue c cenv (eval c cenv);pure (ForInStep.yield ok)else pure (ForInStep.yield r))
    (fun ok s₃=>if ok=true then wpAny (model U.prog U.w) A (eval elt cenv) (fun y s₄=>QQ (some y) s₄) E' s₃ else QQ none s₃) E' s)
  (hR:∀ρ' H' v h' CG oC mC,ρ0 <+:ρ'->AL U (X.withEx ((Cd,oC)::X.ex)) ρ' H' h'->(∀g:Heap,g.get? Cd=some oC->g.Ns Cd mC)->Aq U ρ' v (.ref D)->r0=.ok v H'->Ae (Aq U) U xc X ρ' (.ok v H') Qf (fun J J=>False) { s0 with heap:=h',toks:=CG}->R (.ok .next) { s0 with heap:=h',toks:=CG})
  {m₀:Nat} {s₁:Shared} (h:P7 U xc X ρ0 items Ready st f post I Cd D Qf s0 r0 m₀ s₁):
  codeAny (model U.prog U.w) A (.compLoop (.ListComp elt [⟨.Name nm px,iter,ifs,0⟩] scope pos) 0 (.ref I) (.ref D) cenv) R s₁:=by
 refine codeAny_compLoop_tests (fun n s'=>P7 U xc X ρ0 items Ready st f post I Cd D Qf s0 r0 n s') ?_ m₀ h
 rintro n s' ⟨k,ρk,Hk,h,tk,ys,ws,oI,oC,mC,nD,rfl,rfl,hk,l0,F,hst,Dn,hys,hyk,hrd,hpk,hr0⟩
 have gI:h.get? I=some oI:=F.exGet (p:=(I,oI)) (.tail _ (.head _))
 cases hv:items[k]? with
 | none=>
  have hkl:k=items.length:=Nat.le_antisymm hk (by rw[List.getElem?_eq_none_iff]at hv;exact hv)
  subst hkl
  refine src.done (X.withEx ((Cd,oC)::(I,oI)::(D,listOf (List.toArray ws) nD)::X.ex)) ρk Hk _ oI _ _ l0 F gI hst hrd fun h₁ he=> ?_
  rw[List.drop_length]at hpk
  have e0:bnd (still (Bv f post [])) (fun zs=>Gk (ys++zs)) Hk=Gk (ys++[]) Hk:=rfl
  rw[e0,List.append_nil]at hpk
  rw[List.drop_length,e0,List.append_nil]at hr0
  unfold Gk at hpk hr0
  by_cases hl:ys.length<=BR
  .rw [if_pos hl]at hpk hr0
   have F1:AL U (X.withEx ((I,oI)::(Cd,oC)::(D,listOf (List.toArray ws) nD)::X.ex)) ρk Hk h:=by
    obtain⟨Fr',ps,p,N,Dd,lo⟩:=F
    have pm:((X.withEx ((Cd,oC)::(I,oI)::(D,listOf (List.toArray ws) nD)::X.ex)).px++ps.flatten).Perm ((X.withEx ((I,oI)::(Cd,oC)::(D,listOf (List.toArray ws) nD)::X.ex)).px++ps.flatten):=
     ((List.Perm.swap _ _ _).append_left _).append_right _
    exact⟨Fr',ps,p,DE N fun q hq=>pm.symm.subset hq,BQ pm Dd,lo⟩
   have F2:=F1.dropEx he
   have F3:AL U (X.withEx ((D,listOf (List.toArray ws) nD)::(Cd,oC)::X.ex)) ρk Hk h₁:=by
    obtain⟨Fr',ps,p,N,Dd,lo⟩:=F2
    have pm:((X.withEx ((Cd,oC)::(D,listOf (List.toArray ws) nD)::X.ex)).px++ps.flatten).Perm ((X.withEx ((D,listOf (List.toArray ws) nD)::(Cd,oC)::X.ex)).px++ps.flatten):=
     ((List.Perm.swap _ _ _).append_left _).append_right _
    exact⟨Fr',ps,p,DE N fun q hq=>pm.symm.subset hq,BQ pm Dd,lo⟩
   have F4:=F3.adopt (c:= .list ys) ⟨ws,nD,rfl,hys.mono (List.prefix_append ..)⟩ hD3
   have hl4:Hk.length=ρk.length:=(FS.len F).symm
   refine hR (ρk++[(D,D)]) (Hk++[Af.list ys]) (.ref Hk.length) h₁ tk oC mC (l0.trans (List.prefix_append ..)) F4 Dn ⟨(D,D),by rw[hl4];simp,rfl⟩ (hr0.symm.trans rfl) ?_
   exact fun ρ' v' h' CG l'=>hpk ρ' v' h' CG ((List.prefix_append ..).trans l')
  .rw [if_neg hl]at hpk;exact hpk.elim
 | some v=>
  have Ef:k < items.length:=(Er.mp hv).1
  have hdrop:items.drop k=v::items.drop (k+1):=by
   rw[List.drop_eq_getElem_cons Ef]
   rw[List.getElem?_eq_getElem Ef]at hv
   rw[Option.some.inj hv]
  refine src.item k (X.withEx ((Cd,oC)::(I,oI)::(D,listOf (List.toArray ws) nD)::X.ex)) ρk Hk _ oI v _ _ l0 hv F gI hst hrd fun v' h₁ oI' tk₁ hv' hs₁ ho₁ hst'=> ?_
  have F1:AL U (X.withEx ([(Cd,oC)]++(I,oI')::(D,listOf (List.toArray ws) nD)::X.ex)) ρk Hk h₁:=FS.setEx (X:=X.withEx ((Cd,oC)::(I,oI)::(D,listOf (List.toArray ws) nD)::X.ex)) (pre:=[(Cd,oC)]) F rfl hs₁ ho₁
  have gC:h₁.get? Cd=some oC:=F1.exGet (p:=(Cd,oC)) (.head _)
  refine wpAny_assign_Name (wpAny_storeName_local (m:=mC) hx (by rw[hCd];exact Dn h₁ gC) (fun h₂ hn₂ hs₂=> ?_) hp)
  rw[hCd]at hn₂ hs₂
  obtain⟨oC',es',ep',gC',hd',hk',hf'⟩:=hn₂
  have F2:AL U (X.withEx ((Cd,oC')::(I,oI')::(D,listOf (List.toArray ws) nD)::X.ex)) ρk Hk h₂:=FS.setEx (X:=X.withEx ((Cd,oC)::(I,oI')::(D,listOf (List.toArray ws) nD)::X.ex)) (pre:=[]) F1 rfl hs₂ gC'
  have hns':∀g:Heap,g.get? Cd=some oC'->g.Ns Cd (fun y=>if y=nm then some v' else mC y):=fun g hg=>⟨oC',es',ep',hg,hd',hk',hf'⟩
  rw[hdrop]at hpk hr0
  rw[JO]at hpk hr0
  refine turn ((Cd,oC')::(I,oI')::(D,listOf (List.toArray ws) nD)::X.ex) ρk Hk _ v v' _ oC' (fun y=>if y=nm then some v' else mC y) l0 (fun p hp=> .tail _ (.tail _ (.tail _ hp))) F2 hv' (.head _) hns' (by simp) (QQ:=fun o s₄=>match o with
   | some y=>wpAny (model U.prog U.w) A (call (.builtin "list.append") [.ref D,y]) (fun J s₅=>∃m,m < items.length+1 - k/\P7 U xc X ρ0 items Ready st f post I Cd D Qf s0 r0 m s₅) (notedBy (model U.prog U.w) A cenv fun e s'=>R (.error e) s') s₄
   | none=>∃m,m < items.length+1 - k/\P7 U xc X ρ0 items Ready st f post I Cd D Qf s0 r0 m s₄) ?_
  unfold Ae
  cases hfv:f v Hk with
  | bad=>rw[Ev hfv]at hpk;exact hpk.elim
  | exc e H1=>rw[Hh hfv]at hpk;exact hpk.elim
  | ok y H1=>
   rw[GV hfv]at hpk hr0
   intro ρ1 y' h₃ tk₃ l1 F3 r3
   rcases hpost H1 with⟨AS,hrd1⟩ | AS
   .rw [GV AS]at hpk hr0
    have e3:∀s':Shared,Ae (Aq U) U xc X ρ1 (bnd (still (Bv f post (items.drop (k+1)))) (fun zs=>Gk ((ys++y.toList)++zs)) H1) Qf (fun J J=>False) { s0 with heap:=s'.heap,toks:=s'.toks}:=by
     intro s'
     simp only [List.append_assoc]
     exact Ae.later hpk l1 _ _
    cases y with
    | none=>
     cases y' with
     | some _=>exact r3.elim
     | none=>
      refine⟨items.length+1 - (k+1),by exact dK ‹_›,⟨k+1,ρ1,H1,h₃,tk₃,ys,ws,oI',oC',_,nD,rfl,rfl,Ef,l0.trans l1,F3,hst',hns',hys.mono l1,Nat.le_succ_of_le hyk,hrd1,?_,?_⟩⟩
      .have:=e3 { s0 with heap:=h₃,toks:=tk₃}
       simpa using this
      .simpa using hr0
    | some z=>
     cases y' with
     | none=>exact r3.elim
     | some z'=>
      have gD:h₃.get? D=some (listOf (List.toArray ws) nD):=F3.exGet (p:=(D,_)) (.tail _ (.tail _ (.head _)))
      refine append_at (its:=ws.toArray) (n:=nD) gD (fun h₄ hs₄ ho₄=> ?_) ?_
      .have ho₄':h₄.get? D=some (listOf (List.toArray (ws++[z'])) (nD+1)):=by rw[ho₄,List.push_toArray]
       have F4:=FS.setEx (X:=X.withEx ((Cd,oC')::(I,oI')::(D,listOf (List.toArray ws) nD)::X.ex)) (pre:=[(Cd,oC'),(I,oI')]) F3 rfl hs₄ ho₄'
       exact⟨items.length+1 - (k+1),by exact dK ‹_›,⟨k+1,ρ1,H1,h₄,tk₃,ys++[z],ws++[z'],oI',oC',_,nD+1,rfl,rfl,Ef,l0.trans l1,F4,hst',hns',(hys.mono l1).append (.one r3),by rw[Qu];exact Nat.succ_le_succ hyk,hrd1,e3 { s0 with heap:=h₄,toks:=tk₃},by rw[<-hr0];simp⟩⟩
      .rw [List.size_toArray,hys.length];exact BY (by exact Nat.le_trans ‹_› (Nat.le_trans (Nat.le_of_lt ‹_›) ‹_›))
   .rw [Ev AS]at hpk
    exact hpk.elim
theorem JT(gf:GF U X.G)(x:AL U X ρ H s.heap):3 < s.heap.objs.size:=by
 have h1:=x.fr.above
 have h2:(X.L:Nat) < s.heap.objs.size:=x.fr.ns.lt
 have h3:2 < X.G.objs.size:=by
  obtain⟨mc,hn,_⟩:=gf.T.nolimit
  exact hn.lt
 exact Nat.lt_of_le_of_lt (Nat.le_trans h3 h1) h2
set_option tactic.hygienic true in
theorem FZ{f:V->M (Option V)}{post:M Unit}{items:List V}{Q:Value->Shared->Prop}{E E':Value->Shared->Prop}(hp:Ae (Aq U) U xc X ρ (bnd (still (Bv f post items)) Gk H) Q E s):Ae (Aq U) U xc X ρ (bnd (still (Bv f post items)) Gk H) Q E' s:=by
 simp only [bnd,still]at hp ⊢
 cases q:Bv f post items H with
 | bad=>rw[q]at hp;exact hp.elim
 | exc e H1=>rw[q]at hp;exact hp.elim
 | ok ys H1=>
  rw[q]at hp
  dsimp only at hp ⊢
  unfold Gk at hp ⊢
  split at hp
  .rename_i h;rw[if_pos h];exact hp
  .exact hp.elim
theorem I7{elt iter:Expr}{nm:Str}{px:Pos}{ifs:List Expr}{scope:Scope}{pos:Pos}{cl:List (Str×Addr)}{I:Addr}{items:List V}{Ready:MH->Prop}{st:Nat->Obj->Prop}{f:V->M (Option V)}{post:M Unit}
  {Qf:Value->Shared->Prop} {oI:Obj} {use:Option (Value->Sem Unit)} {Q:Value->Shared->Prop} (gf:GF U X.G) (Ba:items.length<=BR)
  (F:AL U (X.withEx ((I,oI)::X.ex)) ρ H s.heap) (hst:st 0 oI) (src:Yh U A I items Ready ρ st) (hpost:∀H,(post H=.ok () H/\Ready H)\/post H=.bad) (rd:Ready H)
  (hcell:∀y ∈ scope.names,y.2≠.cell) (hkind:scope.kind=.function) (hx:scope.names.lookup nm=some .local)
  (hp:Ae (Aq U) U xc X ρ (bnd (still (Bv f post items)) Gk H) Qf (fun J J=>False) s)
  (turn:∀Cd (ex':List (Addr×Obj)) ρ' H s v v' (QQ:Option Value->Shared->Prop) E' oC mC,ρ <+:ρ'->(∀p ∈ X.ex,p ∈ ex')->AL U (X.withEx ex') ρ' H s.heap->Aq U ρ' v v'->(Cd,oC) ∈ ex'->(∀g:Heap,g.get? Cd=some oC->g.Ns Cd mC)->mC nm=some v'->
   Ae (Xs U) U xc (X.withEx ex') ρ' (f v H) QQ E' s->
   wpAny (model U.prog U.w) A (forIn ifs true fun c r=>if r=true then do let ok <-isTrue c (compEnvC scope cl Cd env) (eval c (compEnvC scope cl Cd env));pure (ForInStep.yield ok)else pure (ForInStep.yield r))
    (fun ok s₃=>if ok=true then wpAny (model U.prog U.w) A (eval elt (compEnvC scope cl Cd env)) (fun y s₄=>QQ (some y) s₄) E' s₃ else QQ none s₃) E' s)
  (hR:∀D Cd ρ' H' v h' CG oC mC,ρ <+:ρ'->AL U (X.withEx ((Cd,oC)::X.ex)) ρ' H' h'->(∀g:Heap,g.get? Cd=some oC->g.Ns Cd mC)->Aq U ρ' v (.ref D)->bnd (still (Bv f post items)) Gk H=.ok v H'->Ae (Aq U) U xc X ρ' (.ok v H') Qf (fun J J=>False) { s with heap:=h',toks:=CG}->
   compPost (model U.prog U.w) A E use Q (.ref D) Cd (.ok .next) { s with heap:=h',toks:=CG}):
  wpAny (model U.prog U.w) A (newList []) (fun acc s₃=>wpAny (model U.prog U.w) A (newFunctionEnv scope env.globals cl [] env.qual none .none (some env)) (fun cenv s₄=>
   codeAny (model U.prog U.w) A (.compStart (.ListComp elt [⟨.Name nm px,iter,ifs,0⟩] scope pos) 0 (.ref I) acc { cenv with scope:=relabel scope env}) (compPost (model U.prog U.w) A E use Q acc cenv.locals) s₄) E s₃) E s:=by
 refine wpAny_newObj_type (wpAny_newFunctionEnv hcell (by intro y hy;simp at hy) (fun h₁ hns₁ hsb₁=> ?_) hkind)
 dsimp only at hns₁ hsb₁ ⊢
 have F1:=FS.addEx (a:=s.heap.objs.size) (o:={ cls:= .type "list",data:= .seq #[]}) F (h':=s.heap.push { cls:= .type "list",data:= .seq #[]}) (fun b o e=>Ds _ e) (Heap.get?_push_size _ rfl) (Nat.le_refl _)
 generalize hH2:s.heap.push { cls:= .type "list",dict:=none,data:= .seq ([]:List Value).toArray}=H2 at hns₁ hsb₁ ⊢
 have hF1:AL U ((X.withEx ((I,oI)::X.ex)).withEx ((s.heap.objs.size,{ cls:= .type "list",data:= .seq #[]})::(I,oI)::X.ex)) ρ H H2:=hH2▸F1
 have hn₁:=hns₁
 obtain⟨oC,es,ep,gC,hd,hk,hf⟩:=hns₁
 have keep:∀b o,H2.get? b=some o->h₁.get? b=some o:=fun b o e=>(hsb₁.2 b (Nat.ne_of_lt (Heap.lt_size e))).trans (Ds _ e)
 have F2:=FS.addEx (a:=H2.objs.size) (o:=oC) hF1 keep gC (Nat.le_refl _)
 have hnsC:∀g:Heap,g.get? H2.objs.size=some oC->g.Ns H2.objs.size (fun x=>([]:List (Str×Value)).reverse.lookup x):=fun g hg=>⟨oC,es,ep,hg,hd,hk,hf⟩
 have F3:AL U (X.withEx ((H2.objs.size,oC)::(I,oI)::(s.heap.objs.size,listOf (List.toArray []) 0)::X.ex)) ρ H h₁:=by
  obtain⟨Fr',ps,p,N,Dd,lo⟩:=F2
  have pm:((X.withEx ((H2.objs.size,oC)::(s.heap.objs.size,listOf (List.toArray []) 0)::(I,oI)::X.ex)).px++ps.flatten).Perm ((X.withEx ((H2.objs.size,oC)::(I,oI)::(s.heap.objs.size,listOf (List.toArray []) 0)::X.ex)).px++ps.flatten):=
   (((List.Perm.swap _ _ _).cons _).append_left _).append_right _
  exact⟨Fr',ps,p,DE N fun q hq=>pm.symm.subset hq,BQ pm Dd,lo⟩
 have inv:P7 U xc X ρ items Ready st f post I H2.objs.size s.heap.objs.size Qf s (bnd (still (Bv f post items)) Gk H) (items.length+1 - 0) { s with heap:=h₁,toks:=s.toks+([]:List (Str×Value)).length}:=
  ⟨0,ρ,H,h₁,_,[],[],oI,oC,_,0,rfl,rfl,Nat.zero_le _,BF _,F3,hst,hnsC,trivial,Nat.le_refl _,rd,Ae.later hp (BF _) _ _,rfl⟩
 have loop:∀s₃:Shared,s₃={ s with heap:=h₁,toks:=s.toks+([]:List (Str×Value)).length}->
   codeAny (model U.prog U.w) A (.compLoop (.ListComp elt [⟨.Name nm px,iter,ifs,0⟩] scope pos) 0 (.ref I) (.ref s.heap.objs.size) (compEnvC scope cl H2.objs.size env))
    (compPost (model U.prog U.w) A E use Q (.ref s.heap.objs.size) H2.objs.size) s₃:=by
  rintro s₃ rfl
  exact Jl (xc:=xc) (X:=X) (ρ0:=ρ) (Qf:=Qf) Ba (JT (X:=X.withEx ((I,oI)::X.ex)) gf F) src hpost (cenv:=compEnvC scope cl H2.objs.size env) (lookup_relabel_local hx) (by simp[compEnvC,relabel,hkind]) rfl
   (turn H2.objs.size) (fun ρ' H' v h' CG oC mC l F Dn hv er hp=>hR _ _ ρ' H' v h' CG oC mC l F Dn hv er hp) inv
 have gI:h₁.get? I=some oI:=FS.exGet F3 (p:=(I,oI)) (.tail _ (.head _))
 exact codeAny_compStart_list (loop _ rfl) (src.self 0 _ oI _ _ gI hst (loop _ rfl))
noncomputable def BU(ns:Dm)(l:Dm):Dm:=l.map fun(n,k)=>if (k==NameKind.free&&ns.lookup n==some .cell)then(n,NameKind.cell)else(n,k)
noncomputable def EM(e:Expr):Bool:= @Expr.casesOn (fun J=>Bool) e (fun J J J=>true) (fun J J J=>true) (fun J J J J=>true) (fun J J J=>true) (fun J J J J=>true) (fun J J J J=>true) (fun J J J=>true) (fun J J J=>false) (fun J J J J=>true) (fun J J J J=>true) (fun J J J J J=>true) (fun J J J J=>true) (fun J J=>true) (fun J J=>true) (fun J J=>true) (fun J J J J=>true) (fun J J J J=>true) (fun J J J J=>true) (fun J J=>true) (fun J J J=>true) (fun J J J=>true) (fun J J J=>true) (fun J J=>true) (fun J J=>true) (fun J J=>true) (fun J J J=>true) (fun J J J J=>true)
theorem Dc{e:Expr}{env:PySem.Env}(h:EM e=true):∀x,foldedSetIterable e env x=pure x:=by
 intro x
 refine Eq.symm (WO h ?_);clear h
 cases e<;>first | exact rfl | exact True.intro
theorem Es(ek:AJ X Ad env ns)(sc:Scope):(relabel sc env).names=BU ns sc.names:=by
 unfold relabel BU PySem.Env.kindOf
 rw[ek.names,ek.kind]
 simp
theorem AJ.ex(ek:AJ X Ad env ns)(ex:List (Addr×Obj)):AJ (X.withEx ex) Ad env ns:=⟨ek.names,ek.kind,ek.glo,ek.blt,ek.frm,ek.hc⟩
theorem Cx.ex(cx:Cx U A X Ad n)(ex:List (Addr×Obj)):Cx U A (X.withEx ex) Ad n:=⟨cx.B,cx.hA,cx.hf,cx.hk,cx.hh,cx.hd,cx.hu,cx.gf⟩
noncomputable def Fin(U:Un)(xc:Value)(X:Fx)(A:Around)(E:Value->Shared->Prop)(use:Option (Value->Sem Unit))(ρ:A9)(r0:R V)(Qf Q:Value->Shared->Prop)(s:Shared):Prop:=
 ∀D Cd ρ' H' v h' CG oC mC,ρ <+:ρ'->AL U (X.withEx ((Cd,oC)::X.ex)) ρ' H' h'->(∀g:Heap,g.get? Cd=some oC->g.Ns Cd mC)->Aq U ρ' v (.ref D)->r0=.ok v H'->Ae (Aq U) U xc X ρ' (.ok v H') Qf (fun J J=>False) { s with heap:=h',toks:=CG}->
  compPost (model U.prog U.w) A E use Q (.ref D) Cd (.ok .next) { s with heap:=h',toks:=CG}
theorem My{Q:Value->Shared->Prop}{r0:R V}:Fin U xc X A E none ρ r0 Q Q s:=by
 intro D Cd ρ' H' v h' CG oC mC l x Dn r _ hp
 refine⟨mC,Dn _ (x.exGet (p:=(Cd,oC)) (.head _)),fun h'' hs=> ?_⟩
 exact hp ρ' (.ref D) h'' CG (BF _) (x.dropEx hs.extBut) r
noncomputable def Ej(sc:Scope)(gens:List Comprehension)(pos:Pos)(e:Expr)(newAcc:Sem Value)(env:PySem.Env)(use:Option (Value->Sem Unit)):Sem Value:=
 comprehension e sc env (firstIterPos gens pos) newAcc (firstAsync gens) (firstIter gens env) use
noncomputable def Tw(U:Un)(xc:Value)(C:Ja Fn)(A:Around)(X:Fx)(env:PySem.Env)(Γ:List Str)(m:ME Fn)(sem:Option (Value->Sem Unit)->Sem Value):Prop:=
 ∀ρ H s vs use Qf Q E,AL U X ρ H s.heap->EO U X ρ env Γ vs->Ae (Aq U) U xc X ρ (Ac C m vs H) Qf E s->(∀ρ' h tk,ρ <+:ρ'->Fin U xc X A E use ρ' (Ac C m vs H) Qf Q { s with heap:=h,toks:=tk})->wpAny (model U.prog U.w) A (sem use) Q E s
theorem Ji{sc:Scope}{x:Str}(ek:AJ X Ad env ns)(k:ET ns Γ sc x)(cx:Cx U A X Ad n){me:ME Fn}{elt:Expr}
  (h2:∀X' Ai,Cx U A X' Ad n->AJ X' Ad Ai (BU ns sc.names)->SE U xc C A X' Ai (Γ++[x]) me elt) (eo:EO U X ρ env Γ vs)
  (Cd:Addr) (ex':List (Addr×Obj)) (ρ':A9) (H:MH) (s:Shared) (v:V) (v':Value) (QQ:Option Value->Shared->Prop) (E':Value->Shared->Prop) (oC:Obj) (mC:Str->Option Value) (l:ρ <+:ρ') (hex:∀p ∈ X.ex,p ∈ ex') (F:AL U (X.withEx ex') ρ' H s.heap) (hv:Aq U ρ' v v') (hm:(Cd,oC) ∈ ex') (Dn:∀g:Heap,g.get? Cd=some oC->g.Ns Cd mC) (hx:mC x=some v')
  (hp:Ae (Xs U) U xc (X.withEx ex') ρ' (bnd (Ac C me (vs++[some v])) (fun y=>Mine.ret (some y)) H) QQ E' s):
  wpAny (model U.prog U.w) A (eval elt (compEnvC sc (Bl env.cells sc.names []) Cd env)) (fun y s₄=>QQ (some y) s₄) E' s:=by
 have ek2:=IL ek k Cd
 rw[Es ek]at ek2
 refine h2 (X.withEx ex') _ (cx.ex ex') (ek2.ex ex') ρ' H s _ _ E' F (K0 ek k eo l hex hm Dn hv hx) (hp.bnd (rel1:=Aq U) fun y H2 ρ2 y' h2 tk2 J l2 x2 r2 Cb=> ?_)
 exact Cb ρ2 (some y') h2 tk2 (BF _) x2 r2
theorem IN{M:Model}{env:PySem.Env}{Q:Bool->Shared->Prop}(h:Q true s):wpAny M A (forIn ([]:List Expr) true fun c r=>if r=true then do let ok <-isTrue c env (eval c env);pure (ForInStep.yield ok)else pure (ForInStep.yield r)) Q E s:=BE h
theorem Rp{M:Model}{env:PySem.Env}{Q:Bool->Shared->Prop}{c:Expr}(h:wpAny M A (isTrue c env (eval c env)) Q E s):wpAny M A (forIn [c] true fun c r=>if r=true then do let ok <-isTrue c env (eval c env);pure (ForInStep.yield ok)else pure (ForInStep.yield r)) Q E s:=by
 rw[List.forIn_cons]
 refine As ?_
 rw[if_pos rfl]
 refine As (wpAny_mono h (fun t s' hq=>BE ?_) fun J J e=>e)
 exact BE hq
set_option tactic.hygienic true in
theorem Nb{elt iter:Expr}{sc:Scope}{x:Str}{px:Pos}{me mi:ME Fn}(cx:Cx U A X Ad n)(ek:AJ X Ad env ns)(k:ET ns Γ sc x)(hset:EM iter=true)
  (h1:SE U xc C A X env Γ mi iter)
  (h2:∀X' Ai,Cx U A X' Ad n->AJ X' Ad Ai (BU ns sc.names)->SE U xc C A X' Ai (Γ++[x]) me elt):
  Tw U xc C A X env Γ (.comp me mi) (Ej sc [⟨.Name x px,iter,[],0⟩] pos (.ListComp elt [⟨.Name x px,iter,[],0⟩] sc pos) (newList []) env):=by
 intro ρ H s vs use Qf Q E hx eo hp fin
 refine wpAny_comprehension_free (cl:=Bl env.cells sc.names []) rfl (Dc hset) (CC (C8 ek k)) k.kind (fun p hp e=>(k.loc p hp e).2) ?_
 refine h1 ρ H s vs _ E hx eo (hp.bnd (rel1:=Aq U) fun l H1 ρ1 l' h1 Bk he l1 x1 r1 AS=> ?_)
 obtain⟨i,c,rfl,hc,Cb⟩:=O1 AS
 obtain⟨_,c',e,hc',hp3⟩:=O1 Cb.as
 cases e
 cases hc.symm.trans hc'
 cases c<;>first | exact hp3.elim | skip
 rename_i xs
 have hl:xs.length<=BR:=Gc hp3 fun hl _=>hl
 have hp4:Ae (Aq U) U xc X ρ1 (bnd (still (Bv (fun x=>bnd (Ac C me (vs++[some x])) fun y=>Mine.ret (some y)) (stays (.ref i) (.list xs)) xs)) Gk H1) Qf E { s with heap:=h1,toks:=Bk}:=Gc hp3 fun _ hp=>hp
 have ee:Ac C (.comp me mi) vs H=bnd (still (Bv (fun x=>bnd (Ac C me (vs++[some x])) fun y=>Mine.ret (some y)) (stays (.ref i) (.list xs)) xs)) Gk H1:=(FE he).trans ((C7 hc).trans (Mm hc hl))
 obtain⟨a,e1,lo,ws,il,vv⟩:=FS.at (s:={ s with heap:=h1,toks:=Bk}) x1 hc
 obtain⟨p,ep,rfl⟩:=r1
 have ep':=ep
 rw[e1]at ep;cases ep
 refine wpAny_pyIter_list (s:={ s with heap:=h1,toks:=Bk}) il ?_
 have hh:A.handled=none:=cx.hh
 have F:=FS.addEx (a:=h1.objs.size) (o:={ cls:= .type "list_iterator",data:= .fields #[.ref a.1,.int 0 0]}) x1 (fun b o e=>Ds _ e) (Heap.get?_push_size _ rfl) (Nat.le_refl _)
 refine I7 (xc:=xc) (X:=X) (ρ:=ρ1) (H:=H1) (items:=xs) (st:=fun k o=>o.cls=.type "list_iterator"/\o.data=.fields #[.ref a.1,.int k 0]) (Ready:=fun H=>H[i]? =some (.list xs)) cx.gf hl F ⟨rfl,rfl⟩
  (Mc hh ep') (fun H=>DX H) hc k.cell k.kind k.it (Ae.later (FZ hp4) (BF _) _ _) (fun Cd ex' ρ' H s v v' QQ E' oC mC l hex F hv hm Dn hx hp=> ?_) (fun D Cd ρ' H' v h' CG oC mC l F Dn hv er hp=>fin _ _ _ (l1.trans l) D Cd ρ' H' v h' CG oC mC (BF _) F Dn hv (ee.trans er) hp)
 refine IN ?_
 rw[if_pos rfl]
 exact Ji ek k cx h2 (eo.mono l1) Cd ex' ρ' H s v v' QQ E' oC mC l hex F hv hm Dn hx hp
noncomputable def En(lo hi:Int)(k:Nat):Obj:={ cls:= .type "range_iterator",dict:=none,data:= .fields #[rawInt (lo+k),rawInt (((hi - lo).toNat:Int) - k),rawInt 1],slots:=#[]}
theorem Gb{lo hi:Int}(h0:0<=lo)(h1:lo<=BR)(h2:hi<=BR)(h3: -(BR:Int)<=hi):Builtin.Range.small lo hi 1=true:=by
 unfold BR at *
 exact small_one (by exact eC ‹_›) (by exact eB ‹_› (by rfl)) (by exact Int.le_trans (by decide) h3) (by exact eB ‹_› (by rfl))
theorem N9(lo hi:Int):({ cls:= .type "range_iterator",data:= .fields #[rawInt lo,rawInt (Builtin.Range.rangeSize lo hi 1),rawInt 1]}:Obj)=En lo hi 0:=by
 unfold En
 rw[rangeSize_one]
 have e1:lo+((0:Nat):Int)=lo:=by simp
 have e2:(((hi - lo).toNat:Nat):Int) - ((0:Nat):Int)=if lo < hi then hi - lo else 0:=by split<;>omega
 rw[e1,e2]
theorem F9{lo hi:Int}{t u v:Tok}{Q:Value->Shared->Prop}(x:AL U X ρ H s.heap)(hf:Builtin.Range.small lo hi 1=true)
  (k:∀h1 I,AL U (X.withEx ((I,En lo hi 0)::X.ex)) ρ H h1->Q (.ref I) { s with heap:=h1}):
  wpAny (model U.prog U.w) A (pyIter (.ref s.heap.objs.size)) Q E { s with heap:=s.heap.push { cls:= .type "range",data:= .fields #[.int lo t,.int hi u,.int 1 v]}}:=by
 refine wpAny_pyIter_range (s:={ s with heap:=s.heap.push { cls:= .type "range",data:= .fields #[.int lo t,.int hi u,.int 1 v]}}) (IsRange.new s.heap lo hi 1 t u v) hf ?_
 rw[N9]
 refine k _ _ ?_
 exact FS.addEx (x.keeps fun b o e=>Ds _ e) (fun b o e=>Ds _ e) (Heap.get?_push_size _ rfl) (Nat.le_refl _)
theorem Hx{α β:Type}{rel:A9->α->β->Prop}{Q:β->Shared->Prop}{Q':Value->Shared->Prop}{g:Int->M α}{m:ME Fn}{e:Expr}(ek:AJ X Ad env ns)(gf:GF U X.G)(ub:UB U)(hn:Dl ns "range"=true)(hs:Ar e=true)
  (h:SE U xc C A X env Γ m e) (x:AL U X ρ H s.heap) (eo:EO U X ρ env Γ vs)
  (hp:Ae rel U xc X ρ (bnd (Ac C m vs) (fun k=>vI k Mine.bad fun n=>if 0<=n/\n<=BR then g n else Mine.bad) H) Q E s)
  (k:∀ρ1 H1 h1 Bk (n:Int) I,ρ <+:ρ1->0<=n->n<=BR->bnd (Ac C m vs) (fun k=>vI k Mine.bad fun n=>if 0<=n/\n<=BR then g n else Mine.bad) H=g n H1->AL U (X.withEx ((I,En 0 n 0)::X.ex)) ρ1 H1 h1->Ae rel U xc X ρ1 (g n H1) Q E { s with heap:=h1,toks:=Bk}->Q' (.ref I) { s with heap:=h1,toks:=Bk}):
  wpAny (model U.prog U.w) A (eval (.Call (.Name "range" np) [e] [] pos) env) (fun y s₁=>wpAny (model U.prog U.w) A (pyIter y) Q' E s₁) E s:=by
 refine BC (BM ek gf x hn (ub.blt "range" (by decide)) rfl (C0 (nm:="range") (by decide)) ?_)
 refine Au (P:=fun J=>True) (by simp[hs]) Dz ?_
 refine spliced_more (h ρ H s vs _ E x eo (hp.bnd (rel1:=Aq U) fun v H1 ρ1 v' h1 Bk he l1 x1 r1 AS=> ?_)) (AH hs)
 refine wpAny_items_nil ⟨trivial,?_⟩
 refine E6 (P:=fun v=>Ac C m vs H=.ok v H1->Aq U ρ1 v v'->_) AS (fun n AS he r1=>CA AS fun hb AS=> ?_) he r1
 refine r1.intE (P:=fun y=>wpAny _ _ (call _ [y]) _ _ _) fun t=> ?_
 refine call_range_1 (F9 (s:={ s with heap:=h1,toks:=Bk+1+1}) x1 (Gb (by decide) (by unfold BR;decide) hb.2 (by have:=hb.1;unfold BR;exact eC ‹_›)) fun h2 I F=> ?_)
 exact k ρ1 H1 h2 _ n I l1 hb.1 hb.2 ((FE he).trans (congrFun (if_pos hb) H1)) F (Ae.later AS (BF _) _ _)
theorem IH{n:Int}(h:n<=BR):(BV 0 n).length<=BR:=by
 unfold BV
 rw[List.length_map,List.length_range]
 exact Int.toNat_le.mpr ((Int.sub_zero _).symm▸‹_›)
theorem MX{elt e:Expr}{sc:Scope}{x:Str}{px:Pos}{me mn:ME Fn}{p2 p3:Pos}(cx:Cx U A X Ad n)(ek:AJ X Ad env ns)(ub:UB U)(k:ET ns Γ sc x)(hn:Dl ns "range"=true)(hs:Ar e=true)
  (h1:SE U xc C A X env Γ mn e)
  (h2:∀X' Ai,Cx U A X' Ad n->AJ X' Ad Ai (BU ns sc.names)->SE U xc C A X' Ai (Γ++[x]) me elt):
  Tw U xc C A X env Γ (.compR me mn) (Ej sc [⟨.Name x px,.Call (.Name "range" p2) [e] [] p3,[],0⟩] pos (.ListComp elt [⟨.Name x px,.Call (.Name "range" p2) [e] [] p3,[],0⟩] sc pos) (newList []) env):=by
 intro ρ H s vs use Qf Q E hx eo hp fin
 refine wpAny_comprehension_free (cl:=Bl env.cells sc.names []) rfl (Dc rfl) (CC (C8 ek k)) k.kind (fun p hp e=>(k.loc p hp e).2) ?_
 refine Hx ek cx.gf ub hn hs h1 hx eo hp fun ρ1 H1 h1 Bk n I l1 h0 hl ee F AS=> ?_
 have hh:A.handled=none:=cx.hh
 refine I7 (s:={ s with heap:=h1,toks:=Bk}) (xc:=xc) (X:=X) (ρ:=ρ1) (H:=H1) (items:=BV 0 n) (st:=fun k o=>o=En 0 n k) (Ready:=fun J=>True) cx.gf (IH hl) F rfl
  (Fw hh) (fun H=> .inl ⟨rfl,trivial⟩) trivial k.cell k.kind k.it (Ae.later (FZ AS) (BF _) _ _) (fun Cd ex' ρ' H s v v' QQ E' oC mC l hex F hv hm Dn hx hp=> ?_) (fun D Cd ρ' H' v h' CG oC mC l F Dn hv er hp=>fin _ _ _ (l1.trans l) D Cd ρ' H' v h' CG oC mC (BF _) F Dn hv (ee.trans er) hp)
 refine IN ?_
 rw[if_pos rfl]
 exact Ji ek k cx h2 (eo.mono l1) Cd ex' ρ' H s v v' QQ E' oC mC l hex F hv hm Dn hx hp
theorem Sk{elt e c:Expr}{sc:Scope}{x:Str}{px:Pos}{me mc mn:ME Fn}{p2 p3:Pos}(cx:Cx U A X Ad n)(ek:AJ X Ad env ns)(ub:UB U)(k:ET ns Γ sc x)(hn:Dl ns "range"=true)(hs:Ar e=true)
  (h1:SE U xc C A X env Γ mn e)
  (h2:∀X' Ai,Cx U A X' Ad n->AJ X' Ad Ai (BU ns sc.names)->SE U xc C A X' Ai (Γ++[x]) me elt)
  (h3:∀X' Ai,Cx U A X' Ad n->AJ X' Ad Ai (BU ns sc.names)->ST U xc C A X' Ai (Γ++[x]) mc c):
  Tw U xc C A X env Γ (.compIf me mc mn) (Ej sc [⟨.Name x px,.Call (.Name "range" p2) [e] [] p3,[c],0⟩] pos (.ListComp elt [⟨.Name x px,.Call (.Name "range" p2) [e] [] p3,[c],0⟩] sc pos) (newList []) env):=by
 intro ρ H s vs use Qf Q E hx eo hp fin
 refine wpAny_comprehension_free (cl:=Bl env.cells sc.names []) rfl (Dc rfl) (CC (C8 ek k)) k.kind (fun p hp e=>(k.loc p hp e).2) ?_
 refine Hx ek cx.gf ub hn hs h1 hx eo hp fun ρ1 H1 h1 Bk n I l1 h0 hl ee F AS=> ?_
 have hh:A.handled=none:=cx.hh
 refine I7 (s:={ s with heap:=h1,toks:=Bk}) (xc:=xc) (X:=X) (ρ:=ρ1) (H:=H1) (items:=BV 0 n) (st:=fun k o=>o=En 0 n k) (Ready:=fun J=>True) cx.gf (IH hl) F rfl
  (Fw hh) (fun H=> .inl ⟨rfl,trivial⟩) trivial k.cell k.kind k.it (Ae.later (FZ AS) (BF _) _ _) (fun Cd ex' ρ' H s v v' QQ E' oC mC l hex F hv hm Dn hx hp=> ?_) (fun D Cd ρ' H' v h' CG oC mC l F Dn hv er hp=>fin _ _ _ (l1.trans l) D Cd ρ' H' v h' CG oC mC (BF _) F Dn hv (ee.trans er) hp)
 refine Rp ?_
 have ek2:=IL ek k Cd
 rw[Es ek]at ek2
 have eo1:=eo.mono (env:=env) (Γ:=Γ) (vs:=vs) l1
 have e0:bnd (Ac C mc (vs++[some v])) (fun c=>bnd (AG c) fun t=>if t=true then bnd (Ac C me (vs++[some v])) fun y=>Mine.ret (some y)else Mine.ret Option.none) H=bnd (bnd (Ac C mc (vs++[some v])) AG) (fun t=>if t=true then bnd (Ac C me (vs++[some v])) fun y=>Mine.ret (some y)else Mine.ret Option.none) H:=by
  simp only [bnd]
  cases Ac C mc (vs++[some v]) H<;>rfl
 rw[e0]at hp
 refine h3 (X.withEx ex') _ (cx.ex ex') (ek2.ex ex') ρ' H s _ _ E' F (K0 ek k eo1 l hex hm Dn hv hx) (hp.bnd (rel1:=WX) fun u H2 ρ2 t' h2' tk2 J l2 x2 r2 Cb=> ?_)
 cases(r2)
 cases u
 .exact Cb ρ2 none h2' tk2 (BF _) x2 trivial
 .rw [if_pos rfl]at Cb ⊢
  exact Ji ek k cx h2 eo1 Cd ex' ρ2 H2 _ v v' QQ E' oC mC (l.trans l2) hex x2 (hv.mono l2) hm Dn hx Cb
noncomputable abbrev Un.pinAt(U:Un)(a:Addr)(o:Obj):Un:={ U with pin:=fun b=>if b=a then some o else U.pin b}
theorem PR.map{U U':Un}{ρ:A9}:∀{H H':MH} {r:A9} {ps:List (List (Addr×Obj))},PR U ρ H r ps->H'.length=H.length->
  (∀(j:Nat) c c' a l,H[j]? =some c->H'[j]? =some c'->r[j]? =some a->ps[j]? =some l->CR U ρ c a l->CR U' ρ c' a l)->PR U' ρ H' r ps
 | [],[],[],[],_,_,_=>trivial
 | c::H,c'::H',a::r,l::ps,⟨x,y⟩,e,k=>
  ⟨k 0 c c' a l rfl rfl rfl rfl x,PR.map y (by simpa using e) fun j c c' a l e1 e2 e3 e4=>k (j+1) c c' a l (by simpa using e1) (by simpa using e2) (by simpa using e3) (by simpa using e4)⟩
 | [],_::_,_,_,_,e,_=>by simp at e
 | _::_,[],_,_,_,e,_=>by simp at e
 | [],[],_::_,_,x,_,_=>x.elim
 | [],[],[],_::_,x,_,_=>x.elim
 | _::_,_::_,[],_,x,_,_=>x.elim
 | _::_,_::_,_::_,[],x,_,_=>x.elim
theorem Jd{ps:List (List (Addr×Obj))}(d:By ps.flatten){i j:Nat}{a b:Addr}{oa ob:Obj}(hi:ps[i]? =some [(a,oa)])(hj:ps[j]? =some [(b,ob)])(hn:i≠j):a≠b:=by
 unfold By at d
 rw[List.map_flatten]at d
 unfold List.Nodup at d
 rw[List.pairwise_flatten]at d
 have d2:=d.2
 rw[List.pairwise_iff_getElem]at d2
 have li:i < (ps.map (List.map (·.1))).length:=by have:=(Er.mp hi).1;simpa using this
 have lj:j < (ps.map (List.map (·.1))).length:=by have:=(Er.mp hj).1;simpa using this
 have ei:(ps.map (List.map (·.1)))[i]=[a]:=by
  have:=(Er.mp hi).2
  simp[this]
 have ej:(ps.map (List.map (·.1)))[j]=[b]:=by
  have:=(Er.mp hj).2
  simp[this]
 intro e
 subst e
 rcases Nat.lt_or_gt_of_ne hn with h | h
 .have:=d2 i j li lj h
  rw[ei,ej]at this
  exact this _ (List.mem_singleton.mpr rfl) _ (List.mem_singleton.mpr rfl) rfl
 .have:=d2 j i lj li h
  rw[ei,ej]at this
  exact this _ (List.mem_singleton.mpr rfl) _ (List.mem_singleton.mpr rfl) rfl
theorem Iv{l l':List (Addr×Obj)}(d:By (l++l')):By l':=by
 unfold By at *
 rw[List.map_append,List.nodup_append]at d
 exact d.2.1
theorem PR.get{U:Un}{ρ:A9}:∀{H:MH} {r:A9} {ps:List (List (Addr×Obj))} {i:Nat} {c:Af},PR U ρ H r ps->H[i]? =some c->∃a l,r[i]? =some a/\ps[i]? =some l/\CR U ρ c a l
 | c::H,a::r,l::ps,0,_,⟨x,_⟩,e=>by simp at e;subst e;exact⟨a,l,rfl,rfl,x⟩
 | c::H,a::r,l::ps,i+1,_,⟨_,y⟩,e=>by
  simp only [List.getElem?_cons_succ]at e ⊢
  exact y.get e
 | [],_,_,_,_,_,e=>by simp at e
 | _::_,[],_,_,_,x,_=>x.elim
 | _::_,_::_,[],_,_,x,_=>x.elim
inductive FS.pinnedI(U:Un)(X:Fx)(ρ:A9)(H:MH)(h:Heap)(i:Nat)(kvs:List (Nat×V)):Prop
 | mk (a:_) (o:_) (es:_) (q0:ρ[i]? =some a) (q1:3 < a.1) (q2:h.get? a.1=some o) (q3:o.IsDictOf (PySem.strKind U.prog U.w) es) (q4:F5 U.sa ρ kvs es) (q5:AL (U.pinAt a.1 o) X ρ (H.set i (.dictP kvs)) h):FS.pinnedI U X ρ H h i kvs
theorem FS.pinned(x:AL U X ρ H h){i:Nat}{kvs:List (Nat×V)}(hc:H[i]? =some (.dictW kvs)):FS.pinnedI U X ρ H h i kvs:=by
 obtain⟨F,ps,p,N,D,lo⟩:=x
 obtain⟨a,l,e1,e2,o,es,rfl,hd,hw⟩:=p.get hc
 have hmem:(a.1,o) ∈ ps.flatten:=List.mem_flatten.mpr ⟨_,List.mem_of_getElem? e2,.head _⟩
 refine⟨a,o,es,e1,lo _ hmem,(N _ (Da _ hmem)).1,hd,hw,F,ps,?_,N,D,lo⟩
 refine p.map (by simp) fun j c c' a' l' h1 h2 h3 h4 y=> ?_
 by_cases hj:j=i
 .subst hj
  rw[hc]at h1;cases h1
  rw[List.getElem?_set_self (Er.mp hc).1]at h2
  cases h2
  rw[e1]at h3;cases h3
  rw[e2]at h4;cases h4
  exact⟨o,es,rfl,hd,hw,if_pos rfl⟩
 .rw [List.getElem?_set_ne (Ne.symm hj),h1]at h2
  cases h2
  cases c with
  | dictP xs=>
   obtain⟨o',es',rfl,d',w',p'⟩:=y
   refine⟨o',es',rfl,d',w',?_⟩
   show(if a'.1=a.1 then some o else U.pin a'.1)=some o'
   rw[if_neg (Jd (Iv D) h4 e2 hj)]
   exact p'
  | _=>exact y
theorem FS.unpinned{a:Addr×Addr}{o:Obj}(x:AL (U.pinAt a.1 o) X ρ H h){i:Nat}{kvs:List (Nat×V)}(hc:H[i]? =some (.dictP kvs))(ha:ρ[i]? =some a):AL U X ρ (H.set i (.dictW kvs)) h:=by
 obtain⟨F,ps,p,N,D,lo⟩:=x
 obtain⟨a₂,l,e1,e2,o₂,es,rfl,hd,hw,hp⟩:=p.get hc
 rw[ha]at e1;cases e1
 refine⟨F,ps,?_,N,D,lo⟩
 refine p.map (by simp) fun j c c' a' l' h1 h2 h3 h4 y=> ?_
 by_cases hj:j=i
 .subst hj
  rw[hc]at h1;cases h1
  rw[List.getElem?_set_self (Er.mp hc).1]at h2
  cases h2
  rw[ha]at h3;cases h3
  rw[e2]at h4;cases h4
  exact⟨o₂,es,rfl,hd,hw⟩
 .rw [List.getElem?_set_ne (Ne.symm hj),h1]at h2
  cases h2
  cases c with
  | dictP xs=>
   obtain⟨o',es',rfl,d',w',p'⟩:=y
   refine⟨o',es',rfl,d',w',?_⟩
   have p2:(if a'.1=a.1 then some o else U.pin a'.1)=some o':=p'
   rw[if_neg (Jd (Iv D) h4 e2 hj)]at p2
   exact p2
  | _=>exact y
theorem GF.pin(gf:GF U X.G){a:Addr}{o:Obj}:GF (U.pinAt a o) X.G:=⟨gf.K,gf.T,gf.ext⟩
theorem Cx.pin(cx:Cx U A X Ad n){a:Addr}{o:Obj}:Cx (U.pinAt a o) A X Ad n:=⟨cx.B,cx.hA,cx.hf,cx.hk,cx.hh,cx.hd,cx.hu,cx.gf.pin⟩
theorem FS.swapEx{p q:Addr×Obj}{r:List (Addr×Obj)}(F:AL U (X.withEx (p::q::r)) ρ H h):AL U (X.withEx (q::p::r)) ρ H h:=by
 obtain⟨Fr',ps,pr,N,Dd,lo⟩:=F
 have pm:((X.withEx (p::q::r)).px++ps.flatten).Perm ((X.withEx (q::p::r)).px++ps.flatten):=
  ((List.Perm.swap _ _ _).append_left _).append_right _
 exact⟨Fr',ps,pr,DE N fun q hq=>pm.symm.subset hq,BQ pm Dd,lo⟩
theorem KL{d v y:V}{H H2:MH}{k:Nat}(hv:v=.w k)(e:Dg d v y H=.ok () H2):∃j,d=.ref j/\((∃kvs,H[j]? =some (.dictW kvs)/\kvs.length < 100/\H2=H.set j (.dictW (EX k y kvs)))):=by
 subst hv
 cases d with
 | ref j=>
  refine⟨j,rfl,?_⟩
  cases hj:H[j]? with
  | none=>exact nomatch (GE hj).symm.trans e
  | some c=>
   have e:=(C7 hj).symm.trans e
   cases c with
   | dictW kvs=>
    by_cases hl:kvs.length < 100
    .cases (congrFun (if_pos hl) H).symm.trans e
     exact⟨kvs,rfl,hl,rfl⟩
    .exact nomatch (congrFun (if_neg hl) H).symm.trans e
   | _=>exact nomatch e
 | _=>exact nomatch e
noncomputable def fD(C:Ja Fn)(vs:Mine.Env)(mv:ME Fn)(d:V)(v:V):M (Option V):=bnd (Ac C mv (vs++[some v])) fun y=>bnd (Dg d v y) fun J=>Mine.ret Option.none
inductive TG(U U':Un)(xc:Value)(X:Fx)(ρ0:A9)(items:List V)(Ready:MH->Prop)(st:Nat->Obj->Prop)(f:V->M (Option V))(post:M Unit)(I Cd:Addr)(fin:M V)(Qf:Value->Shared->Prop)(s0:Shared)(r0:R V)(n:Nat)(s':Shared):Prop
 | mk (k:_) (ρk:_) (Hk:_) (h:_) (tk:_) (oI:_) (oC:_) (mC:_) (q0:s'={ s0 with heap:=h,toks:=tk}) (q1:n=items.length+1 - k) (q2:k<=items.length) (q3:ρ0 <+:ρk) (q4:AL U' (X.withEx ((Cd,oC)::(I,oI)::X.ex)) ρk Hk h) (q5:st k oI) (q6:(∀g:Heap,g.get? Cd=some oC->g.Ns Cd mC)) (q7:Ready Hk) (q8:Ae (Aq U) U xc X ρk (bnd (still (Bv f post (items.drop k))) (fun J=>fin) Hk) Qf (fun J J=>False) s') (q9:bnd (still (Bv f post (items.drop k))) (fun J=>fin) Hk=r0):TG U U' xc X ρ0 items Ready st f post I Cd fin Qf s0 r0 n s'
theorem NL{β:Type}(f:V->M (Option V))(post:M Unit)(v:V)(r:List V)(K:M β):
  bnd (still (Bv f post (v::r))) (fun J=>K) H=bnd (still (f v)) (fun J=>bnd (still post) fun J=>bnd (still (Bv f post r)) fun J=>K) H:=by
 rw[JO]
theorem Jk{kx vx iter:Expr}{nm:Str}{px:Pos}{scope:Scope}{pos:Pos}{cenv:PySem.Env}{I Cd:Addr}{d:Nat}{pd:Addr×Addr}{items:List V}{Ready:MH->Prop}{st:Nat->Obj->Prop}{mv:ME Fn}{post:M Unit}{fin:M V}{U':Un}(hU:U'.prog=U.prog/\U'.w=U.w/\U'.sa=U.sa)
  {Qf:Value->Shared->Prop} {R:Result->Shared->Prop} {s0:Shared} {r0:Mine.R V} (hw:∀v ∈ items,∃k,v=.w k) (hpd:ρ0[d]? =some pd)
  (src:Yh U' A I items Ready ρ0 st) (hpost:∀H,(post H=.ok () H/\Ready H)\/post H=.bad)
  (hx:cenv.kindOf nm=some .local) (hp:(cenv.scope.kind== .class||(cenv.scope.kind== .module&&cenv.locals != cenv.globals))=false) (hCd:cenv.locals=Cd)
  (turn:∀(ex':List (Addr×Obj)) ρ v v' oC mC,ρ0 <+:ρ->(∀p ∈ X.ex,p ∈ ex')->Aq U ρ v v'->(Cd,oC) ∈ ex'->(∀g:Heap,g.get? Cd=some oC->g.Ns Cd mC)->mC nm=some v'->
   EO U' (X.withEx ex') ρ cenv (Γ++[nm]) (vs++[some v]))
  (A3:∀ex',SE U' xc C A (X.withEx ex') cenv (Γ++[nm]) (.O Γ.length) kx)
  (hval:∀ex',SE U' xc C A (X.withEx ex') cenv (Γ++[nm]) mv vx)
  (hR:∀ρ' H' h' CG oC mC,ρ0 <+:ρ'->AL U' (X.withEx ((Cd,oC)::X.ex)) ρ' H' h'->Ready H'->(∀g:Heap,g.get? Cd=some oC->g.Ns Cd mC)->r0=fin H'->Ae (Aq U) U xc X ρ' (fin H') Qf (fun J J=>False) { s0 with heap:=h',toks:=CG}->R (.ok .next) { s0 with heap:=h',toks:=CG})
  (Ec:vs.length=Γ.length)
  {m₀:Nat} {s₁:Shared} (h:TG U U' xc X ρ0 items Ready st (fD C vs mv (.ref d)) post I Cd fin Qf s0 r0 m₀ s₁):
  codeAny (model U.prog U.w) A (.compLoop (.DictComp kx vx [⟨.Name nm px,iter,[],0⟩] scope pos) 0 (.ref I) (.ref pd.1) cenv) R s₁:=by
 obtain⟨hU1,hU2,hU3⟩:=hU
 refine codeAny_compLoop_testsD (fun n s'=>TG U U' xc X ρ0 items Ready st (fD C vs mv (.ref d)) post I Cd fin Qf s0 r0 n s') ?_ m₀ h
 rintro n s' ⟨k,ρk,Hk,h,tk,oI,oC,mC,rfl,rfl,hk,l0,F,hst,Dn,hrd,hpk,hr0⟩
 have gI:h.get? I=some oI:=F.exGet (p:=(I,oI)) (.tail _ (.head _))
 cases hv:items[k]? with
 | none=>
  have hkl:k=items.length:=Nat.le_antisymm hk (by rw[List.getElem?_eq_none_iff]at hv;exact hv)
  subst hkl
  rw[<-hU1,<-hU2]
  refine src.done (X.withEx ((Cd,oC)::(I,oI)::X.ex)) ρk Hk _ oI _ _ l0 F gI hst hrd fun h₁ he=> ?_
  rw[List.drop_length]at hpk
  have e0:bnd (still (Bv (fD C vs mv (.ref d)) post [])) (fun J=>fin) Hk=fin Hk:=rfl
  rw[e0]at hpk
  rw[List.drop_length,e0]at hr0
  have F2:=F.swapEx.dropEx he
  exact hR ρk Hk h₁ tk oC mC l0 F2 hrd Dn hr0.symm hpk
 | some v=>
  have Ef:k < items.length:=(Er.mp hv).1
  have hdrop:items.drop k=v::items.drop (k+1):=by
   rw[List.drop_eq_getElem_cons Ef]
   rw[List.getElem?_eq_getElem Ef]at hv
   rw[Option.some.inj hv]
  obtain⟨kw,rfl⟩:=hw v (List.mem_of_getElem? hv)
  rw[<-hU1,<-hU2]
  refine src.item k (X.withEx ((Cd,oC)::(I,oI)::X.ex)) ρk Hk _ oI (.w kw) _ _ l0 hv F gI hst hrd fun v' h₁ oI' tk₁ hv' hs₁ ho₁ hst'=> ?_
  rw[hU1,hU2]
  have hv':Aq U ρk (.w kw) v':=by rw[Aq,<-hU3];exact hv'
  have F1:AL U' (X.withEx ([(Cd,oC)]++(I,oI')::X.ex)) ρk Hk h₁:=FS.setEx (X:=X.withEx ((Cd,oC)::(I,oI)::X.ex)) (pre:=[(Cd,oC)]) F rfl hs₁ ho₁
  have gC:h₁.get? Cd=some oC:=F1.exGet (p:=(Cd,oC)) (.head _)
  refine wpAny_assign_Name (wpAny_storeName_local (m:=mC) hx (by rw[hCd];exact Dn h₁ gC) (fun h₂ hn₂ hs₂=> ?_) hp)
  rw[hCd]at hn₂ hs₂
  obtain⟨oC',es',ep',gC',hd',hk',hf'⟩:=hn₂
  have F2:AL U' (X.withEx ((Cd,oC')::(I,oI')::X.ex)) ρk Hk h₂:=FS.setEx (X:=X.withEx ((Cd,oC)::(I,oI')::X.ex)) (pre:=[]) F1 rfl hs₂ gC'
  have hns':∀g:Heap,g.get? Cd=some oC'->g.Ns Cd (fun y=>if y=nm then some v' else mC y):=fun g hg=>⟨oC',es',ep',hg,hd',hk',hf'⟩
  refine IN ?_
  rw[if_pos rfl,<-hU1,<-hU2]
  have eo:=turn ((Cd,oC')::(I,oI')::X.ex) ρk (.w kw) v' oC' (fun y=>if y=nm then some v' else mC y) l0 (fun p hp=> .tail _ (.tail _ hp)) hv' (.head _) hns' (by simp)
  refine A3 _ ρk Hk _ (vs++[some (.w kw)]) _ _ F2 eo ?_
  have ev:Ac C (.O Γ.length) (vs++[some (.w kw)]) Hk=.ok (.w kw) Hk:=by
   show Cp ((vs++[some (V.w kw)])[Γ.length]?).join Hk=_
   rw[<-Ec]
   simp[Cp,Mine.ret]
  rw[ev]
  intro ρa kv ha tka la Fa ra
  obtain⟨tkv,rfl⟩:=ra
  refine hval _ ρa Hk { s0 with heap:=ha,toks:=tka} (vs++[some (.w kw)]) _ _ Fa (eo.mono la) ?_
  rw[hdrop,NL]at hpk hr0
  unfold Ae
  cases hfv:Ac C mv (vs++[some (.w kw)]) Hk with
  | bad=>rw[Ev (by unfold fD bnd;rw[hfv])]at hpk;exact hpk.elim
  | exc e H1=>rw[Hh (by unfold fD bnd;rw[hfv])]at hpk;exact hpk.elim
  | ok y H1=>
   intro ρ1 y' h₃ tk₃ l1 F3 r3
   cases hsv:Dg (.ref d) (.w kw) y H1 with
   | bad=>rw[Ev (by unfold fD bnd;rw[hfv];dsimp only;rw[hsv])]at hpk;exact hpk.elim
   | exc e H2=>rw[Hh (by unfold fD bnd;rw[hfv];dsimp only;rw[hsv])]at hpk;exact hpk.elim
   | ok u H2=>
    obtain⟨j,ej,kvs,hc,hl,rfl⟩:=KL rfl hsv
    cases ej
    rw[GV (by unfold fD bnd;rw[hfv];dsimp only;rw[hsv];rfl)]at hpk hr0
    obtain⟨a,o,news,g,e1,lo,⟨o₂,es,e2,hd,vd⟩,N2,hm,up,back⟩:=FS.oneCell (s:={ s0 with heap:=h₃,toks:=tk₃}) F3 hc (fun J J=>by simp)
    cases e2
    have ea:a=pd:=by
     have:=Di ((l0.trans la).trans l1) hpd
     rw[e1]at this
     exact Option.some.inj this
    subst ea
    obtain⟨pre,post',rfl,hg,a1,b1⟩:=up.split
    have hmem:=N2 (a.1,o) (Da _ (.head _))
    refine wpAny_dictSet_pairs (s:={ s0 with heap:=h₃,toks:=tk₃}) (knd:=PySem.strKind U'.prog U'.w) (kvs:=es) (strKind_is _ _ _ _) (Heap.dictOf_iff.mpr ⟨o,hmem.1,hd⟩) (fun h' hD hs=> ?_) (by rw[sizeLine_eq,vd.length];exact bD ‹_› (by rfl))
    obtain⟨o',ho',hd'⟩:=Heap.dictOf_iff.mp hD
    have nd:(es.map (·.1)).Nodup:=by obtain⟨xs,ep,_,_,_,_,nd⟩:=hd;exact nd
    have F4:=back (.dictW (EX kw y kvs)) o' h' ⟨o',_,rfl,hd',vd.stored r3 nd⟩ (F3.fr.change hs hmem.2.1 hmem.2.2) (hg o'▸N2.setIn a1 b1 hs ho')
    rcases hpost (H1.set d (.dictW (EX kw y kvs)))with⟨AS,hrd1⟩ | AS
    .rw [GV AS]at hpk hr0
     exact⟨items.length+1 - (k+1),by exact dK ‹_›,⟨k+1,ρ1,_,h',_,oI',oC',_,rfl,rfl,Ef,(l0.trans la).trans l1,F4,hst',hns',hrd1,Ae.later hpk (la.trans l1) _ _,hr0⟩⟩
    .rw [Ev AS]at hpk
     exact hpk.elim
theorem F5.keys{sa:Addr}{ρ:A9}:∀{kvs:List (Nat×V)} {es:List (Str×Value)},F5 sa ρ kvs es->es.map (·.1)=kvs.map fun q=>wd q.1
 | [],[],_=>rfl
 | [],_::_,h=>h.elim
 | _::_,[],h=>h.elim
 | p::r,e::es,⟨h1,_,h3⟩=>by rw[List.map_cons,List.map_cons,h1,h3.keys]
inductive IZ(U:Un)(xc:Value)(X:Fx)(ρ:A9)(H:MH)(s:Shared)(E:Value->Shared->Prop)(α:Type)(β:Type)(rel:A9->α->β->Prop)(Q:β->Shared->Prop)(v:V)(f:List (Nat×V)->M α):Prop
 | mk (i:_) (xs:_) (q0:v=.ref i) (q1:H[i]? =some (.dictW xs)) (q2:xs.length < 100) (q3:Ae rel U xc X ρ (f xs H) Q E s):IZ U xc X ρ H s E α β rel Q v f
theorem Uo{α β:Type}{rel:A9->α->β->Prop}{Q:β->Shared->Prop}{v:V}{f:List (Nat×V)->M α}(hp:Ae rel U xc X ρ (bnd (Mine.getD v) f H) Q E s):IZ U xc X ρ H s E α β rel Q v f:=
 Bx (P:=fun v=>IZ U xc X ρ H s E α β rel Q v f) hp.as fun i c e hp=>by
  cases c with
  | dictW xs=>exact Gc hp fun hl hp=>⟨i,_,rfl,e,hl,hp⟩
  | _=>exact hp.elim
theorem Nr{α β:Type}{rel:A9->α->β->Prop}{r:R α}{Q:β->Shared->Prop}{E':Value->Shared->Prop}(hp:Ae rel U xc X ρ r Q E s)(h:∀e H',r≠.exc e H'):Ae rel U xc X ρ r Q E' s:=by
 cases r with
 | ok a H=>exact hp
 | exc e H=>exact absurd rfl (h e H)
 | bad=>exact hp
theorem EO.pin{a:Addr}{o:Obj}(e:EO U X ρ env Γ vs):EO (U.pinAt a o) X ρ env Γ vs:=⟨e.len,e.get⟩
theorem NT{kx vx iter:Expr}{sc:Scope}{x:Str}{px:Pos}{mv mi:ME Fn}(cx:Cx U A X Ad n)(ek:AJ X Ad env ns)(k:ET ns Γ sc x)(hset:EM iter=true)(hkx:∃p,kx=.Name x p)(Ls:DZ (BU ns sc.names) x=true)
  (h1:SE U xc C A X env Γ mi iter)
  (h2:∀a o X' Ai,Cx (U.pinAt a o) A X' Ad n->AJ X' Ad Ai (BU ns sc.names)->SE (U.pinAt a o) xc C A X' Ai (Γ++[x]) mv vx):
  Tw U xc C A X env Γ (.dcomp mv mi) (Ej sc [⟨.Name x px,iter,[],0⟩] pos (.DictComp kx vx [⟨.Name x px,iter,[],0⟩] sc pos) newDict env):=by
 obtain⟨kp,rfl⟩:=hkx
 intro ρ H s vs use Qf Q E hx eo hp fin
 refine wpAny_comprehension_free (cl:=Bl env.cells sc.names []) rfl (Dc hset) (CC (C8 ek k)) k.kind (fun p hp e=>(k.loc p hp e).2) ?_
 refine h1 ρ H s vs _ E hx eo (hp.bnd (rel1:=Aq U) fun l H1 ρ1 l' h1 Bk he l1 x1 r1 AS=> ?_)
 obtain⟨i,kvs,rfl,hc,Ba,Cb⟩:=Uo AS
 obtain⟨a,o,es,e1,lo,ho,hd,hw,Fp⟩:=FS.pinned x1 hc
 obtain⟨p,ep',rfl⟩:=r1
 rw[e1]at ep';cases ep'
 obtain⟨xs,ep,ex,hdat,hkeys,hpairs,hnd⟩:=hd
 refine wpAny_pyIter_dict (s:={ s with heap:=h1,toks:=Bk}) (knd:=PySem.strKind U.prog U.w) (kvs:=es) (ep:=ep) (Dw lo) ⟨o,xs,ho,ex,hdat,hkeys,hpairs,hnd⟩ ?_
 dsimp only
 have hh:A.handled=none:=cx.hh
 have gsz:=JT (s:={ s with heap:=h1,toks:=Bk}) cx.gf x1
 have F0:=FS.addEx (a:=h1.objs.size) (o:={ cls:= .type "dict_keyiterator",data:= .fields #[.ref a.1,.int 0 0,.int es.length 0,.int ep 0]}) Fp (fun b o e=>Ds _ e) (Heap.get?_push_size _ rfl) (Nat.le_refl _)
 generalize hHI:h1.push { cls:= .type "dict_keyiterator",data:= .fields #[.ref a.1,.int 0 0,.int es.length 0,.int ep 0]}=HI at F0 ⊢
 have szI:h1.objs.size<=HI.objs.size:=by rw[<-hHI,Heap.size_push];exact Nat.le_succ _
 refine wpAny_newObj_type ?_
 have F1:=FS.addEx (a:=HI.objs.size) (o:={ cls:= .type "dict",data:= .dict #[]}) F0 (fun b o e=>Ds _ e) (Heap.get?_push_size _ rfl) (Nat.le_refl _)
 have F2:=FS.adopt (X:=X) (c:= .dictW []) F1 ⟨_,[],rfl,by
  obtain⟨o,ho,hd⟩:=Heap.dictOf_iff.mp (Heap.DictOf.new (knd:=PySem.strKind U.prog U.w) HI)
  rw[Heap.get?_push_size _ rfl]at ho
  cases ho
  exact hd,trivial⟩ (Nat.lt_of_lt_of_le gsz szI)
 have hD:(ρ1++[(HI.objs.size,HI.objs.size)])[(H1.set i (.dictP kvs)).length]? =some (HI.objs.size,HI.objs.size):=by
  rw[<-FS.len Fp];simp
 generalize hHD:HI.push { cls:= .type "dict",dict:=none,data:= .dict #[]}=HD at F2 ⊢
 refine wpAny_newFunctionEnv k.cell (by intro y hy;simp at hy) (fun h₁ hns₁ hsb₁=> ?_) k.kind
 dsimp only at hns₁ hsb₁ ⊢
 have hn₁:=hns₁
 obtain⟨oC,es',ep',gC,hd',hk',hf'⟩:=hns₁
 have keep:∀b o,HD.get? b=some o->h₁.get? b=some o:=fun b o e=>(hsb₁.2 b (Nat.ne_of_lt (Heap.lt_size e))).trans (Ds _ e)
 have F3:=FS.addEx (a:=HD.objs.size) (o:=oC) F2 keep gC (Nat.le_refl _)
 have hnsC:∀g:Heap,g.get? HD.objs.size=some oC->g.Ns HD.objs.size (fun x=>([]:List (Str×Value)).reverse.lookup x):=fun g hg=>⟨oC,es',ep',hg,hd',hk',hf'⟩
 have ek2:=IL ek k HD.objs.size
 rw[Es ek]at ek2
 have hset':(D6 (.ref i) (.dictP kvs) H1)=.ok () (H1.set i (.dictP kvs)):=rfl
 have hp3:Ae (Aq U) U xc X ρ1 (bnd (still (Bv (fD C vs mv (.ref (H1.set i (.dictP kvs)).length)) (stays (.ref i) (.dictP kvs)) (kvs.map fun p=> .w p.1))) (fun J=>bnd (D6 (.ref i) (.dictW kvs)) fun J=>Mine.ret (.ref (H1.set i (.dictP kvs)).length)) (H1.set i (.dictP kvs)++[.dictW []])) Qf E { s with heap:=h1,toks:=Bk}:=Cb
 have hp4:Ae (Aq U) U xc X ρ1 (bnd (still (Bv (fD C vs mv (.ref (H1.set i (.dictP kvs)).length)) (stays (.ref i) (.dictP kvs)) (kvs.map fun p=> .w p.1))) (fun J=>bnd (D6 (.ref i) (.dictW kvs)) fun J=>Mine.ret (.ref (H1.set i (.dictP kvs)).length)) (H1.set i (.dictP kvs)++[.dictW []])) Qf (fun J J=>False) { s with heap:=h1,toks:=Bk}:=by
  refine Nr hp3 fun e H' q=> ?_
  simp only [bnd,still,D6,Mine.ret]at q
  cases q2:Bv (fD C vs mv (.ref (H1.set i (.dictP kvs)).length)) (stays (.ref i) (.dictP kvs)) (kvs.map fun p=> .w p.1) (H1.set i (.dictP kvs)++[.dictW []])<;>rw[q2]at q<;>cases q
 have ee:Ac C (.dcomp mv mi) vs H=bnd (still (Bv (fD C vs mv (.ref (H1.set i (.dictP kvs)).length)) (stays (.ref i) (.dictP kvs)) (kvs.map fun p=> .w p.1))) (fun J=>bnd (D6 (.ref i) (.dictW kvs)) fun J=>Mine.ret (.ref (H1.set i (.dictP kvs)).length)) (H1.set i (.dictP kvs)++[.dictW []]):=by
  exact(FE he).trans (Me hc Ba)
 have inv:TG U (U.pinAt a.1 o) xc X (ρ1++[(HI.objs.size,HI.objs.size)]) (kvs.map fun p=> .w p.1) (fun H=>H[i]? =some (.dictP kvs)) (fun k o=>o.cls=.type "dict_keyiterator"/\o.data=.fields #[.ref a.1,.int k 0,.int es.length 0,.int ep 0]) (fD C vs mv (.ref (H1.set i (.dictP kvs)).length)) (stays (.ref i) (.dictP kvs)) h1.objs.size HD.objs.size
   (bnd (D6 (.ref i) (.dictW kvs)) fun J=>Mine.ret (.ref (H1.set i (.dictP kvs)).length)) Qf s (Ac C (.dcomp mv mi) vs H) ((kvs.map fun p=>V.w p.1).length+1 - 0) { s with heap:=h₁,toks:=Bk+([]:List (Str×Value)).length}:=by
  refine⟨0,ρ1++[(HI.objs.size,HI.objs.size)],H1.set i (.dictP kvs)++[.dictW []],h₁,_,_,oC,_,rfl,rfl,Nat.zero_le _,BF _,F3,⟨rfl,rfl⟩,hnsC,?_,by rw[List.drop_zero];exact Ae.later hp4 (List.prefix_append ..) _ _,by rw[List.drop_zero];exact ee.symm⟩
  .have hi:i < H1.length:=(Er.mp hc).1
   rw[List.getElem?_append_left (by simpa using hi),List.getElem?_set_self hi]
 have loop:∀s₃:Shared,s₃={ s with heap:=h₁,toks:=Bk+([]:List (Str×Value)).length}->
   codeAny (model U.prog U.w) A (.compLoop (.DictComp (.Name x kp) vx [⟨.Name x px,iter,[],0⟩] sc pos) 0 (.ref h1.objs.size) (.ref HI.objs.size) (compEnvC sc (Bl env.cells sc.names []) HD.objs.size env))
    (compPost (model U.prog U.w) A E use Q (.ref HI.objs.size) HD.objs.size) s₃:=by
  rintro s₃ rfl
  refine Jk (U:=U) (U':=U.pinAt a.1 o) (xc:=xc) (X:=X) (ρ0:=ρ1++[(HI.objs.size,HI.objs.size)]) (Γ:=Γ) (vs:=vs) (C:=C) (mv:=mv) (Qf:=Qf) (s0:=s) (pd:=(HI.objs.size,HI.objs.size)) ⟨rfl,rfl,rfl⟩ (fun v hv=> ?_) hD
   (LA (U:=U.pinAt a.1 o) hh (kvs:=kvs) (ep:=ep) (es:=es) (Di (List.prefix_append ..) e1) (if_pos rfl) ⟨ex,xs,hdat,hkeys,hpairs,hnd⟩ hw.keys hw.length) (fun H=>DX H)
   (cenv:=compEnvC sc (Bl env.cells sc.names []) HD.objs.size env) (lookup_relabel_local k.it) (by simp[compEnvC,relabel,k.kind]) rfl
   (fun ex' ρ' v v' oC mC l hex hv hm Dn hx=> ?_) (fun ex'=> ?_) (fun ex'=> ?_) (fun ρ' H' h' CG oC mC l F hrd Dn er hp=> ?_) eo.len inv
  .obtain ⟨q,_,rfl⟩:=List.mem_map.mp hv
   exact⟨_,rfl⟩
  .exact (K0 ek k (eo.mono l1) ((List.prefix_append ..).trans l) hex hm Dn hv hx).pin
  .exact QG (ek2.ex ex') (by simp) Ls
  .exact h2 _ _ (X.withEx ex') _ (cx.ex ex').pin (ek2.ex ex')
  .have e1':=Di ((List.prefix_append ..).trans l) e1
   have F':=FS.unpinned F hrd e1'
   exact fin ρ1 h1 Bk l1 _ _ ρ' (H'.set i (.dictW kvs)) (.ref (H1.set i (.dictP kvs)).length) h' CG oC mC ((List.prefix_append ..).trans l) F' Dn ⟨_,Di l hD,rfl⟩ er hp
 have gI:h₁.get? h1.objs.size=some _:=FS.exGet F3 (p:=(h1.objs.size,_)) (.tail _ (.head _))
 refine codeAny_compStart_dict (loop _ rfl) ?_
 exact wpAny_pyIter_keyiter (i:=0) (d:=a.1) (n:=es.length) (ep:=ep) ⟨_,gI,rfl,rfl⟩ (loop _ rfl)
theorem Sh{α:Type}{l:List α}(nd:l.Nodup){i j:Nat}{x:α}(hi:l[i]? =some x)(hj:l[j]? =some x):i=j:=by
 obtain⟨h1,h2⟩:=Er.mp hi
 obtain⟨h3,h4⟩:=Er.mp hj
 unfold List.Nodup at nd
 rw[List.pairwise_iff_getElem]at nd
 rcases Nat.lt_trichotomy i j with h | h | h
 .exact absurd (h2.trans h4.symm) (nd i j h1 h3 h)
 .exact h
 .exact absurd (h4.trans h2.symm) (nd j i h3 h1 h)
structure CH(X X':Fx):Prop where
 G:X'.G=X.G
 L:X'.L=X.L
 base:X'.base=X.base
 l:X'.l=X.l
 ex:X'.ex=X.ex
theorem CH.refl{X:Fx}:CH X X:=⟨rfl,rfl,rfl,rfl,rfl⟩
theorem CH.trans{X Y Z:Fx}(a:CH X Y)(b:CH Y Z):CH X Z:=⟨b.G.trans a.G,b.L.trans a.L,b.base.trans a.base,b.l.trans a.l,b.ex.trans a.ex⟩
structure SX(U:Un)(A:Around)(X:Fx)(Ad env:PySem.Env)(n:Nat)(ns:Dm):Prop where
 cx:Cx U A X Ad n
 ek:AJ X Ad env ns
 loc:env.locals=X.L
 cel:∀y c,env.cells.lookup y=some c->∃o v0,(c,o) ∈ X.own/\o.data=.cell v0
 inj:∀y z c,env.cells.lookup y=some c->env.cells.lookup z=some c->y=z
 og:∀e,X.l=[e]->X.base=X.G
theorem Cx.same(cx:Cx U A X Ad n)(m:CH X X'):Cx U A X' Ad n:=by
 obtain⟨G,L,base,l,ex⟩:=m
 refine⟨?_,?_,?_,cx.hk,cx.hh,cx.hd,cx.hu,?_⟩
 .rw [G,base,l];exact cx.B
 .rw [l];exact cx.hA
 .rw [L];exact cx.hf
 .rw [G];exact cx.gf
theorem AJ.same(ek:AJ X Ad env ns)(m:CH X X'):AJ X' Ad env ns:=⟨ek.names,ek.kind,ek.glo,ek.blt,by rw[m.L];exact ek.frm,ek.hc⟩
noncomputable def Bw(U:Un)(xc:Value)(A:Around)(Ad env:PySem.Env)(n:Nat)(ns:Dm)(Γ:List Str)(X:Fx)(ρ:A9)(r:R (Mine.Env×Option V))(Q:Flow->Shared->Prop)(E:Value->Shared->Prop)(s:Shared):Prop:=match r with
 | .ok (vs',fl) H'=>∀X' ρ' h' CG,CH X X'->SX U A X' Ad env n ns->ρ <+:ρ'->AL U X' ρ' H' h'->EO U X' ρ' env Γ vs'->(match fl with
   | none=>Q .next { s with heap:=h',toks:=CG}
   | some v=>∀v',Aq U ρ' v v'->Q (.ret v') { s with heap:=h',toks:=CG})
 | .exc msg H'=>∀X' ρ' e h' CG,CH X X'->ρ <+:ρ'->Sp U xc X' msg ρ' H' e h'->E (.ref e) { s with heap:=h',toks:=CG}
 | .bad=>False
theorem Bw.later{r:R (Mine.Env×Option V)}{Q:Flow->Shared->Prop}(hp:Bw U xc A Ad env n ns Γ X ρ r Q E s)(m:CH X X')(l:ρ <+:ρ')(h:Heap)(tk:Nat):Bw U xc A Ad env n ns Γ X' ρ' r Q E { s with heap:=h,toks:=tk}:=by
 cases r with
 | ok a H=>exact fun X₂ ρ₂ h' CG m' sx' l'=>hp X₂ ρ₂ h' CG (m.trans m') sx' (l.trans l')
 | exc e H=>exact fun X₂ ρ₂ v' h' CG m' l'=>hp X₂ ρ₂ v' h' CG (m.trans m') (l.trans l')
 | bad=>exact hp
theorem Bw.bnd{α β:Type}{rel:A9->α->β->Prop}{m:M α}{f:α->M (Mine.Env×Option V)}{Q:Flow->Shared->Prop}{Q1:β->Shared->Prop}
  (hp:Bw U xc A Ad env n ns Γ X ρ (Mine.bnd m f H) Q E s)
  (k:∀a H1 ρ1 a' h1 Bk,m H=.ok a H1->ρ <+:ρ1->AL U X ρ1 H1 h1->rel ρ1 a a'->Bw U xc A Ad env n ns Γ X ρ1 (f a H1) Q E { s with heap:=h1,toks:=Bk}->Q1 a' { s with heap:=h1,toks:=Bk}):
  Ae rel U xc X ρ (m H) Q1 E s:=by
 unfold Mine.bnd at hp
 unfold Ae
 cases e:m H with
 | ok a H1=>
  rw[e]at hp
  intro ρ1 a' h1 Bk l1 F1 r1
  exact k a H1 ρ1 a' h1 Bk e l1 F1 r1 (Bw.later (r:=f a H1) hp CH.refl l1 _ _)
 | exc msg H1=>
  rw[e]at hp
  exact fun ρ1 e' h1 Bk l1 x=>hp X ρ1 e' h1 Bk CH.refl l1 x
 | bad=>rw[e]at hp;exact hp
noncomputable def SS(U:Un)(xc:Value)(C:Ja Fn)(A:Around)(Ad env:PySem.Env)(n:Nat)(ns:Dm)(Γ:List Str)(ms:MS Fn)(st:Stmt):Prop:=
 ∀X ρ H s vs Q E,SX U A X Ad env n ns->AL U X ρ H s.heap->EO U X ρ env Γ vs->Bw U xc A Ad env n ns Γ X ρ (E3 C ms vs H) Q E s->wpAny (model U.prog U.w) A (exec st env) Q E s
noncomputable def N1(U:Un)(xc:Value)(C:Ja Fn)(A:Around)(Ad env:PySem.Env)(n:Nat)(ns:Dm)(Γ:List Str)(ms:List (MS Fn))(st:List Stmt):Prop:=
 ∀X ρ H s vs Q E,SX U A X Ad env n ns->AL U X ρ H s.heap->EO U X ρ env Γ vs->Bw U xc A Ad env n ns Γ X ρ (Am C ms vs H) Q E s->wpAny (model U.prog U.w) A (execs st env) Q E s
noncomputable def LE(U:Un)(xc:Value)(C:Ja Fn)(A:Around)(Ad env:PySem.Env)(n:Nat)(ns:Dm)(Γ:List Str)(m:ME Fn)(e:Expr):Prop:=
 ∀X,SX U A X Ad env n ns->SE U xc C A X env Γ m e
noncomputable def fU(U:Un)(xc:Value)(C:Ja Fn)(A:Around)(Ad env:PySem.Env)(n:Nat)(ns:Dm)(Γ:List Str)(m:ME Fn)(e:Expr):Prop:=
 ∀X,SX U A X Ad env n ns->ST U xc C A X env Γ m e
theorem TO:N1 U xc C A Ad env n ns Γ [] []:=by
 intro X ρ H s vs Q E sx x eo hp
 exact wpAny_execs_nil (hp X ρ s.heap s.toks CH.refl sx (BF _) x eo)
theorem St{ms:MS Fn}{mr:List (MS Fn)}{st:Stmt}{sr:List Stmt}(h:SS U xc C A Ad env n ns Γ ms st)(h2:N1 U xc C A Ad env n ns Γ mr sr):N1 U xc C A Ad env n ns Γ (ms::mr) (st::sr):=by
 intro X ρ H s vs Q E sx x eo hp
 refine wpAny_execs_cons (h X ρ H s vs _ E sx x eo ?_)
 change Bw _ _ _ _ _ _ _ _ _ _ (bnd _ _ _) _ _ _ at hp
 unfold Mine.bnd at hp
 cases e:E3 C ms vs H with
 | bad=>rw[e]at hp;exact hp
 | exc m H1=>rw[e]at hp;exact hp
 | ok p H1=>
  rw[e]at hp
  obtain⟨vs1,fl⟩:=p
  dsimp only at hp
  intro X1 ρ1 h1 Bk m1 sx1 l1 F1 eo1
  cases fl with
  | none=>
   dsimp only at hp ⊢
   exact h2 X1 ρ1 H1 _ vs1 Q E sx1 F1 eo1 (Bw.later hp m1 l1 _ _)
  | some v=>
   dsimp only at hp ⊢
   exact fun v' r=>hp X1 ρ1 h1 Bk m1 sx1 l1 F1 eo1 v' r
theorem FS.setOwn{a:Addr}{o o':Obj}{pre post:List (Addr×Obj)}(x:AL U X ρ H h)(e:X.own=pre++(a,o)::post)(hs:Heap.SameBut a h h')(ho:h'.get? a=some o'):AL U { X with own:=pre++(a,o')::post} ρ H h':=by
 obtain⟨F,ps,p,N,D,lo⟩:=x
 have w:X.px++ps.flatten=pre++(a,o)::(post++X.ex++ps.flatten):=by simp[Fx.px,e]
 rw[w]at N D
 obtain⟨h1,h2⟩:(∀q ∈ pre,q.1≠a)/\∀q ∈ post++X.ex++ps.flatten,q.1≠a:=by
  unfold By at D
  rw[List.map_append,List.map_cons]at D
  have d2:=(List.nodup_append.mp D)
  refine⟨fun q hq=>d2.2.2 q.1 (List.mem_map_of_mem hq) a (.head _),fun q hq e=> ?_⟩
  have:=(List.nodup_cons.mp d2.2.1).1
  exact this (e▸List.mem_map_of_mem (f:=(·.1)) hq)
 have z:=N (a,o) (Da _ (.head _))
 refine⟨F.change hs z.2.1 z.2.2,ps,p,?_,?_,lo⟩
 .have:=N.setAt h1 h2 hs ho
  simpa [Fx.px]using this
 .have:=Hp (o':=o') D
  simpa [Fx.px]using this
noncomputable def A2(ns:Dm)(x:Str):Bool:=ns.lookup x==some .local||ns.lookup x==some .cell
theorem Fs{M:Model}{ex1:List (Addr×Obj)}{i:Nat}{nm:Str}{v:V}{v':Value}{Q:Unit->Shared->Prop}(sx:SX U A X Ad env n ns)(x:AL U (X.withEx ex1) ρ H s.heap)(eo:EO U X ρ env Γ vs)
  (hi:Γ[i]? =some nm) (nd:Γ.Nodup) (hk:A2 ns nm=true) (hv:Aq U ρ v v')
  (k:∀X' h' CG,CH X X'->SX U A X' Ad env n ns->AL U (X'.withEx ex1) ρ H h'->EO U X' ρ env Γ (vs.set i (some v))->Q () { s with heap:=h',toks:=CG}):
  wpAny M A (storeName env nm v') Q E s:=by
 have ek:=sx.ek
 have other:∀(j:Nat) (y:Str),Γ[j]? =some y->y=nm->j=i:=fun j y hj e=>by
  subst e
  exact Sh nd hj hi
 have eo':∀X':Fx,GL X' env nm v'->(∀y z,y≠nm->GL X env y z->GL X' env y z)->EO U X' ρ env Γ (vs.set i (some v)):=fun X' l1 l2=>by
  refine⟨by rw[List.length_set];exact eo.len,fun j w y hw hy hvis=> ?_⟩
  by_cases hj:j=i
  .subst hj
   rw[hi]at hy;cases hy
   have Ef:j < vs.length:=by rw[eo.len];exact(Er.mp hi).1
   rw[List.getElem?_set_self Ef]at hw
   cases hw
   exact⟨v',hv,l1⟩
  .rw [List.getElem?_set_ne (Ne.symm hj)]at hw
   obtain⟨z,hz,lz⟩:=eo.get j w y hw hy hvis
   exact⟨z,hz,l2 y z (fun e=>hj (other j y hy e)) lz⟩
 have hLpx:∀o,(X.L,o) ∉ X.own:=fun o hm=>by
  obtain⟨F,ps,p,N,D,lo⟩:=x
  exact(N (X.L,o) (B0 _ (B0 _ hm))).2.1 rfl
 unfold A2 at hk
 rw[Bool.or_eq_true]at hk
 rcases hk with hk | hk
 .have hx:env.kindOf nm=some .local:=by unfold PySem.Env.kindOf;rw[ek.names];exact beq_iff_eq.mp hk
  have Dn:=x.fr.ns
  rw[show(X.withEx ex1).L=env.locals from sx.loc.symm]at Dn
  refine wpAny_storeName_local hx Dn (fun h' hn hs=> ?_) (by rw[ek.kind];rfl)
  rw[show env.locals=X.L from sx.loc]at hn hs
  let X':Fx:={ X with m:=fun y=>if y=nm then some v' else X.m y}
  have same:CH X X':=⟨rfl,rfl,rfl,rfl,rfl⟩
  refine k X' h' _ same ⟨sx.cx.same same,ek.same same,sx.loc,sx.cel,sx.inj,sx.og⟩ ?_ (eo' X' (.inl ⟨hx,sx.loc,by simp[X']⟩) fun y z hy l=> ?_)
  .obtain ⟨F,ps,p,N,D,lo⟩:=x
   exact⟨F.set hn hs,ps,p,N.set hs,D,lo⟩
  .rcases l with⟨a,b,c⟩ | l | l
   .exact .inl ⟨a,b,by simp[X',hy,c]⟩
   .exact .inr (.inl l)
   .exact .inr (.inr l)
 .have hx:env.kindOf nm=some .cell:=by unfold PySem.Env.kindOf;rw[ek.names];exact beq_iff_eq.mp hk
  obtain⟨c,hc⟩:=Option.isSome_iff_exists.mp (ek.hc nm (.inl hx))
  obtain⟨o,v0,hmem,hd⟩:=sx.cel nm c hc
  obtain⟨pre,post,e⟩:=List.append_of_mem hmem
  have hget:s.heap.get? c=some o:=by
   obtain⟨F,ps,p,N,D,lo⟩:=x
   exact(N (c,o) (B0 _ (B0 _ hmem))).1
  refine wpAny_storeName_cell ek.kind hx hc ⟨o,hget,hd⟩ fun h' hv' hs=> ?_
  obtain⟨o',ho',hd'⟩:=hv'
  let X':Fx:={ X with own:=pre++(c,o')::post}
  have same:CH X X':=⟨rfl,rfl,rfl,rfl,rfl⟩
  have up:∀q:Addr×Obj,q.1≠c->q ∈ X.own->q ∈ X'.own:=fun q hq hm=>by
   rw[e]at hm
   show q ∈ pre++(c,o')::post
   rcases List.mem_append.mp hm with hm | hm
   .exact B0 _ hm
   .rcases List.mem_cons.mp hm with rfl | hm
    .exact absurd rfl hq
    .exact Da _ (.tail _ hm)
  have upx:∀q:Addr×Obj,q.1≠c->q ∈ X.px->q ∈ X'.px:=fun q hq hm=>by
   rcases List.mem_append.mp hm with hm | hm
   .exact B0 _ (up q hq hm)
   .exact Da _ hm
  refine k X' h' _ same ⟨sx.cx.same same,ek.same same,sx.loc,fun y c' hy=> ?_,sx.inj,sx.og⟩ (FS.setOwn (X:=X.withEx ex1) x e hs ho') (eo' X' (.inr (.inl ⟨.inl hx,c,o',hc,?_,hd'⟩)) fun y z hy l=> ?_)
  .obtain ⟨o2,v2,m2,d2⟩:=sx.cel y c' hy
   by_cases hcc:c'=c
   .subst hcc
    exact⟨o',_,Da _ (.head _),hd'⟩
   .exact ⟨o2,v2,up (c',o2) hcc m2,d2⟩
  .exact B0 _ (Da _ (.head _))
  .rcases l with l | ⟨a,c',o2,b1,b2,b3⟩ | ⟨a,o2,m2,b1,b2⟩
   .exact .inl l
   .refine .inr (.inl ⟨a,c',o2,b1,upx (c',o2) (fun q=>hy ?_) b2,b3⟩)
    have q':c'=c:=q
    subst q'
    exact sx.inj y nm c' b1 hc
   .refine .inr (.inr ⟨a,o2,m2,upx (env.locals,o2) (fun q=> ?_) b1,b2⟩)
    have q':env.locals=c:=q
    rw[sx.loc]at q'
    exact hLpx o (by rw[q'];exact hmem)
theorem Li{M:Model}{A:Around}{s:Shared}{E:Value->Shared->Prop}{a b:Value}{Q:Value->Shared->Prop}(ha:s.TypeIs a "list")(hb:s.TypeIs b "list")
  (hc:wpAny M A (call (.builtin "list.__iadd__") [a,b]) Q E s):wpAny M A (inplaceOp .Add a b) Q E s:=by
 unfold inplaceOp
 refine wpAny_holding ?_
 have lk:=PySem.F.slot_list_iadd.lookup
 have hs:isSeqSlot (some (.builtin "list.__iadd__"))=true:=by decide+kernel
 have hfi:fillsInplaceSlot (.type "list") "add" (Operator.Add== .Add)=pure false:=by
  unfold fillsInplaceSlot
  show(typeLookup (.type "list") (dunderI "add") >>= fun fi=>pure (fi.isSome&& !isSeqSlot fi))=pure false
  rw[lk]
  show(pure (true&& !isSeqSlot (some (.builtin "list.__iadd__"))):Sem Bool)=pure false
  rw[hs];rfl
 refine As (wpAny_typeOf ha (As (wpAny_of_eq hfi ?_)))
 show wpAny M A (if false=true then _ else _) Q E s
 rw[if_neg Bool.false_ne_true]
 refine As (wpAny_binaryOp1_none (nm:="add") ha hb noFill_list_add ?_)
 refine As (wpAny_of_eq (PySem.seqSlot_of lk hs) ?_)
 exact As (wpAny_rule hc)
noncomputable def DQ(e:Expr):Bool:= @Expr.casesOn (fun J=>Bool) e (fun J J J=>true) (fun J J J=>true) (fun J J J J=>true) (fun J J J=>true) (fun J J J J=>true) (fun J J J J=>true) (fun J J J=>true) (fun J J J=>true) (fun J J J J=>false) (fun J J J J=>false) (fun J J J J J=>false) (fun J J J J=>true) (fun J J=>true) (fun J J=>true) (fun J J=>true) (fun J J J J=>true) (fun J J J J=>true) (fun J J J J=>true) (fun J J=>true) (fun J J J=>true) (fun J J J=>true) (fun J J J=>true) (fun J J=>true) (fun J J=>true) (fun J J=>true) (fun J J J=>true) (fun J J J J=>true)
theorem GS{e:Expr}{t:Option Expr}{l:Nat}{env:PySem.Env}(h:DQ e=true):swapsWith e t l env=pure false:=by
 refine Eq.symm (WO h ?_);clear h
 cases e<;>first | exact rfl | exact True.intro
theorem XT{m:ME Fn}{e:Expr}{i:Nat}{nm:Str}{px:Pos}(hc:DQ e=true)(hi:Γ[i]? =some nm)(nd:Γ.Nodup)(hk:A2 ns nm=true)(h:LE U xc C A Ad env n ns Γ m e):
  SS U xc C A Ad env n ns Γ (.asg i m) (.Assign [.Name nm px] e pos):=by
 intro X ρ H s vs Q E sx x eo hp
 refine wpAny_Assign_Name (h X sx ρ H s vs _ E x eo (hp.bnd (rel:=Aq U) fun v H1 ρ1 v' h1 Bk J l1 x1 r1 AS=> ?_)) (GS hc)
 refine Fs (ex1:=X.ex) sx x1 (eo.mono l1) hi nd hk r1 fun X' h' CG sm sx' x' eo'=> ?_
 have ex':X'.withEx X.ex=X':=by rw[<-sm.ex]
 rw[ex']at x'
 exact AS X' ρ1 h' CG sm sx' (BF _) x' eo'
theorem TY(uf:UF U){m o:ME Fn}{e eo':Expr}{a:Nat}{p2:Pos}(hc:DQ e=true)(ha:a ∈ CV)(h:LE U xc C A Ad env n ns Γ m e)(h2:LE U xc C A Ad env n ns Γ o eo'):
  SS U xc C A Ad env n ns Γ (.setA o a m) (.Assign [.Attribute eo' (wd a) p2] e pos):=by
 intro X ρ H s vs Q E sx x eo hp
 refine plainObj_wpAny_Assign_Attribute (h X sx ρ H s vs _ E x eo (hp.bnd (rel:=Aq U) fun v H1 ρ1 v' h1 Bk J l1 x1 r1 AS=> ?_)) (GS hc)
 refine h2 X sx ρ1 H1 _ vs _ E x1 (eo.mono l1) (AS.bnd (rel:=Aq U) fun w H2 ρ2 w' h2 tk2 J l2 x2 r2 Cb=> ?_)
 refine L5 (xc:=xc) uf sx.cx x2 ha r2 (r1.mono l2) (Cb.bnd (rel:=fun J J J=>True) fun u H3 ρ3 u' h3 tk3 J l3 x3 J hp3=> ?_)
 exact hp3 X ρ3 h3 tk3 .refl sx (BF _) x3 (((eo.mono l1).mono l2).mono l3)
theorem U5{m o k:ME Fn}{e eo' ek:Expr}{p2:Pos}(hc:DQ e=true)(h:LE U xc C A Ad env n ns Γ m e)(h2:LE U xc C A Ad env n ns Γ o eo')(h3:LE U xc C A Ad env n ns Γ k ek):
  SS U xc C A Ad env n ns Γ (.setI o k m) (.Assign [.Subscript eo' ek p2] e pos):=by
 intro X ρ H s vs Q E sx x eo hp
 refine wpAny_Assign_Subscript (h X sx ρ H s vs _ E x eo (hp.bnd (rel:=Aq U) fun v H1 ρ1 v' h1 Bk J l1 x1 r1 AS=> ?_)) (GS hc)
 refine h2 X sx ρ1 H1 _ vs _ E x1 (eo.mono l1) (AS.bnd (rel:=Aq U) fun w H2 ρ2 w' h2 tk2 J l2 x2 r2 Cb=> ?_)
 refine h3 X sx ρ2 H2 _ vs _ E x2 ((eo.mono l1).mono l2) (Cb.bnd (rel:=Aq U) fun z H3 ρ3 z' h3 tk3 J l3 x3 r3 hp3=> ?_)
 refine L9 (xc:=xc) x3 (r2.mono l3) r3 ((r1.mono l2).mono l3) (hp3.bnd (rel:=fun J J J=>True) fun u H4 ρ4 u' h4 tk4 J l4 x4 J hp4=> ?_)
 exact hp4 X ρ4 h4 tk4 .refl sx (BF _) x4 ((((eo.mono l1).mono l2).mono l3).mono l4)
theorem Zf{m:ME Fn}{e:Expr}(hc:DQ e=true)(h:LE U xc C A Ad env n ns Γ m e):
  SS U xc C A Ad env n ns Γ (.ex m) (.Expr e pos):=by
 intro X ρ H s vs Q E sx x eo hp
 have hi:interactive env=false:=by
  unfold interactive
  rw[sx.ek.kind];rfl
 refine wpAny_Expr_any (h X sx ρ H s vs _ E x eo (hp.bnd (rel:=Aq U) fun v H1 ρ1 v' h1 Bk J l1 x1 r1 AS=> ?_)) hi (GS hc)
 exact AS X ρ1 h1 Bk .refl sx (BF _) x1 (eo.mono l1)
theorem XC{m:ME Fn}{e:Expr}(h:LE U xc C A Ad env n ns Γ m e):
  SS U xc C A Ad env n ns Γ (.ret m) (.Return (some e) pos):=by
 intro X ρ H s vs Q E sx x eo hp
 refine wpAny_Return_some (h X sx ρ H s vs _ E x eo (hp.bnd (rel:=Aq U) fun v H1 ρ1 v' h1 Bk J l1 x1 r1 AS=> ?_))
 exact AS X ρ1 h1 Bk .refl sx (BF _) x1 (eo.mono l1) v' r1
theorem Uu:SS U xc C A Ad env n ns Γ .ret0 (.Return none pos):=by
 intro X ρ H s vs Q E sx x eo hp
 exact wpAny_Return_none (hp X ρ s.heap s.toks .refl sx (BF _) x eo .none rfl)
theorem W4{c:ME Fn}{t e:List (MS Fn)}{ec:Expr}{bt be:List Stmt}(h:fU U xc C A Ad env n ns Γ c ec)(h2:N1 U xc C A Ad env n ns Γ t bt)(h3:N1 U xc C A Ad env n ns Γ e be):
  SS U xc C A Ad env n ns Γ (.ifs c t e) (.If ec bt be pos):=by
 intro X ρ H s vs Q E sx x eo hp
 have e0:bnd (Ac C c vs) (fun x=>bnd (AG x) fun b=>if b=true then Am C t vs else Am C e vs) H=bnd (bnd (Ac C c vs) AG) (fun b=>if b=true then Am C t vs else Am C e vs) H:=by
  simp only [bnd]
  cases Ac C c vs H<;>rfl
 change Bw _ _ _ _ _ _ _ _ _ _ (bnd _ _ _) _ _ _ at hp
 rw[e0]at hp
 refine wpAny_If (h X sx ρ H s vs _ E x eo (hp.bnd (rel:=WX) fun u H1 ρ1 v' h1 Bk J l1 x1 r1 AS=> ?_))
 cases(r1)
 cases u
 .exact h3 X ρ1 H1 _ vs Q E sx x1 (eo.mono l1) AS
 .exact h2 X ρ1 H1 _ vs Q E sx x1 (eo.mono l1) AS
theorem EP(G:Str×Pos->Value->Sem Unit)(hG:∀p v Q E s,wpAny (model U.prog U.w) A (storeName env p.1 v) Q E s->wpAny (model U.prog U.w) A (G p v) Q E s):∀(is:List Nat) (tg:List (Str×Pos)) (xs:List V) (ys:List Value) (X:Fx) (vs vs':Mine.Env) (s:Shared) (Q:Unit->Shared->Prop),SX U A X Ad env n ns->AL U X ρ H s.heap->EO U X ρ env Γ vs->C3 U.sa ρ xs ys->
  tg.length=is.length->(∀(j i:Nat) (p:Str×Pos),is[j]? =some i->tg[j]? =some p->Γ[i]? =some p.1/\A2 ns p.1=true)->Γ.Nodup->Eg is xs vs=some vs'->
  (∀X' h' CG,CH X X'->SX U A X' Ad env n ns->AL U X' ρ H h'->EO U X' ρ env Γ vs'->Q () { s with heap:=h',toks:=CG})->wpAny (model U.prog U.w) A (assignInOrder (tg.map G) ys) Q E s
 | [],tg,xs,ys,X,vs,vs',s,Q,sx,x,eo,hv,hn,hi,nd,e,k=>by
  cases tg with
  | cons _ _=>cases hn
  | nil=>
   cases xs with
   | cons _ _=>cases e
   | nil=>
    cases ys with
    | cons _ _=>exact hv.elim
    | nil=>
     cases e
     exact BE (k X s.heap s.toks .refl sx x eo)
 | i::is,tg,xs,ys,X,vs,vs',s,Q,sx,x,eo,hv,hn,hi,nd,e,k=>by
  cases tg with
  | nil=>cases hn
  | cons p tg=>
   cases xs with
   | nil=>cases e
   | cons v xs=>
    cases ys with
    | nil=>exact hv.elim
    | cons y ys=>
     obtain⟨h1,h2⟩:=hi 0 i p rfl rfl
     show wpAny _ _ (do holding ys (G p y);assignInOrder (tg.map G) ys) _ _ _
     refine As (wpAny_holding (hG p y _ _ _ (Fs (ex1:=X.ex) sx x eo h1 nd h2 hv.1 fun X' h' CG sm sx' x' eo'=> ?_)))
     have ex':X'.withEx X.ex=X':=by rw[<-sm.ex]
     rw[ex']at x'
     refine EP G hG is tg xs ys X' _ vs' _ Q sx' x' eo' hv.2 (by simpa using hn) (fun j i p a b=>hi (j+1) i p (by simpa using a) (by simpa using b)) nd e fun X₂ h₂ tk₂ sm₂ sx₂ x₂ eo₂=> ?_
     exact k X₂ h₂ tk₂ (sm.trans sm₂) sx₂ x₂ eo₂
theorem CY{env:PySem.Env}:∀tg:List (Str×Pos),assignEach (tg.map fun p=> .Name p.1 p.2) env=tg.map fun p=>(false,assign (.Name p.1 p.2) env)
 | []=>rfl
 | p::r=>by
  rw[List.map_cons,List.map_cons,<-CY r]
  rfl
theorem E4{env:PySem.Env}:∀tg:List (Str×Pos),(tg.map fun p=>(false,assign (.Name p.1 p.2) env)).findIdx? (·.1)=none
 | []=>rfl
 | p::r=>by
  rw[List.map_cons,List.findIdx?_cons]
  simp[E4 r]
noncomputable def NJ(e:Expr):Bool:= @Expr.casesOn (fun J=>Bool) e (fun J J J=>true) (fun J J J=>true) (fun J J J J=>true) (fun J J J=>true) (fun J J J J=>true) (fun J J J J=>true) (fun J J J=>true) (fun J J J=>true) (fun J J J J=>false) (fun J J J J=>false) (fun J J J J J=>false) (fun J J J J=>true) (fun J J=>true) (fun J J=>true) (fun J J=>true) (fun J J J J=>true) (fun J J J J=>true) (fun J J J J=>true) (fun J J=>true) (fun J J J=>true) (fun J J J=>true) (fun J J J=>true) (fun J J=>true) (fun J J=>true) (fun J J=>true) (fun J J J=>false) (fun J J J J=>true)
theorem I0{α:Type}{o:Option α}{f:α->M (Mine.Env×Option V)}{Q:Flow->Shared->Prop}(hp:Bw U xc A Ad env n ns Γ X ρ (bnd (Cp o) f H) Q E s):∃a,o=some a/\Bw U xc A Ad env n ns Γ X ρ (f a H) Q E s:=by
 cases o with
 | none=>exact hp.elim
 | some a=>exact⟨a,rfl,hp⟩
theorem Ko{v:V}{f:Af->M (Mine.Env×Option V)}{Q:Flow->Shared->Prop}(hp:Bw U xc A Ad env n ns Γ X ρ (bnd (B4 v) f H) Q E s):∃i c,v=.ref i/\H[i]? =some c/\Bw U xc A Ad env n ns Γ X ρ (f c H) Q E s:=by
 rcases TQ (v:=v) (f:=f) (H:=H)with e | ⟨a,c,h1,h2,e⟩
 .rw [e]at hp;exact hp.elim
 .rw [e]at hp;exact⟨a,c,h1,h2,hp⟩
theorem Bw.nb{C:Prop}{r r':R (Mine.Env×Option V)}{Q:Flow->Shared->Prop}(hp:Bw U xc A Ad env n ns Γ X ρ r Q E s)(h:r=.bad\/(C/\r=r')):C/\Bw U xc A Ad env n ns Γ X ρ r' Q E s:=by
 rcases h with e | ⟨c,e⟩
 .rw [e]at hp;exact hp.elim
 .exact ⟨c,e▸hp⟩
set_option tactic.hygienic true in
theorem Uq{m:ME Fn}{e:Expr}{is:List Nat}{tg:List (Str×Pos)}{k:Nat}{tpos:Pos}(hc:NJ e=true)(hn:tg.length=is.length)
  (hi:∀(j i:Nat) (p:Str×Pos),is[j]? =some i->tg[j]? =some p->Γ[i]? =some p.1/\A2 ns p.1=true) (nd:Γ.Nodup) (h:LE U xc C A Ad env n ns Γ m e):
  SS U xc C A Ad env n ns Γ (.asgT is m) (.Assign [.Tuple (tg.map fun p=> .Name p.1 p.2) k tpos] e pos):=by
 intro X ρ H s vs Q E sx x eo hp
 refine Assign_Tuple (h X sx ρ H s vs _ E x eo (hp.bnd (rel:=Aq U) fun v H1 ρ1 v' h1 Bk _ l1 x1 r1 AS=> ?_)) (by cases e<;>first | rfl | (cases hc;done)) (by cases e<;>first | rfl | (cases hc;done))
 obtain⟨i,c,rfl,hcell,Cb⟩:=Ko AS
 cases c<;>first | exact Cb.elim | skip
 rename_i xs
 obtain⟨vs',hset,hp3⟩:=I0 Cb
 obtain⟨a,e1,lo,ws,il,vv⟩:=FS.at (s:={ s with heap:=h1,toks:=Bk}) x1 hcell
 obtain⟨p,ep,rfl⟩:=r1
 rw[e1]at ep;cases ep
 have Ba:xs.length=is.length:=by
  clear hp AS Cb hp3 vv il hcell hi hn
  revert hset
  generalize vs=vs0
  induction is generalizing xs vs0 with
  | nil=>intro q;cases xs<;>first | rfl | cases q
  | cons i is ih=>intro q;cases xs with
   | nil=>cases q
   | cons v xs=>exact congrArg (·+1) (ih _ _ q)
 refine assign_Tuple_tuple (s:={ s with heap:=h1,toks:=Bk}) sx.cx.hh il (by rw[CY,List.length_map,hn,List.size_toArray,vv.length,Ba]) (by rw[CY];exact E4 tg) fun h2 he=> ?_
 have x2:AL U X ρ1 H1 h2:=by
  have hs:∀b o,h1.get? b=some o->h2.get? b=some o:=fun b o g=>he b o (Nat.ne_of_lt (Heap.lt_size g)) g
  exact x1.keeps hs
 rw[CY,List.map_map]
 refine EP (fun p=>assign (.Name p.1 p.2) env) (fun p v Q E s hq=>PySem.wpAny_assign_Name hq) is tg xs ws X vs vs' _ _ sx x2 (eo.mono l1) vv hn hi nd hset fun X' h' CG sm sx' x' eo'=> ?_
 exact hp3 X' ρ1 h' CG sm sx' (BF _) x' eo'
theorem ZE{α:Type}{c:Bool}{a b r:α}(h:c=false)(e:b=r):(if c=true then a else b)=r:=by subst h;exact e
theorem YZ{v:Expr}(h:Ar v=true):swappedStores.match_5 (fun J=>Bool) v (fun J J=>true) (fun J=>false)=false:=by
 refine Eq.symm (WO h ?_);clear h
 cases v<;>first | exact rfl | exact True.intro
theorem bor{a b:Bool}(h:a=false)(g:b=false):(a||b)=false:=by subst h;exact g
theorem Zj{a b:Str}(h:a≠b):[a,b].eraseDups=[a,b]:=by simp[List.eraseDups_cons,beq_eq_false_iff_ne.mpr (Ne.symm h)]
theorem Rz{a b:Str}{pa pb tpos p2:Pos}{k k2:Nat}{v1 v2:Expr}(ek:AJ X Ad env ns)(h1:Ar v1=true)(h2:Ar v2=true)(la:ns.lookup a=some .local)(lb:ns.lookup b=some .local)(hl:(pb.line==pa.line)=true)(hab:a≠b)
  (hf:[v1,v2].all (foldedForSure 8)=false) (hk:[v1,v2].all (constantsAlone 8)=false):
  swappedStores [.Tuple [.Name a pa,.Name b pb] k tpos] (.Tuple [v1,v2] k2 p2) env=pure (some [a,b]):=by
 have ka:env.kindOf a=some .local:=by unfold PySem.Env.kindOf;rw[ek.names];exact la
 have kb:env.kindOf b=some .local:=by unfold PySem.Env.kindOf;rw[ek.names];exact lb
 have bk:(env.blockKind != .function)=false:=by unfold PySem.Env.blockKind;rw[ek.kind];rfl
 have hn:List.filterMap (fun x=>swappedStores.match_8 (fun J=>Option Str) x (fun id pos=>if (env.kindOf id==some .local&&pos.line==(Option.map (fun x=>x.pos.line) [Expr.Name a pa,Expr.Name b pb].head?).getD 0)=true then some id else none) fun J=>none) [.Name a pa,.Name b pb]=[a,b]:=by
  refine(List.filterMap_cons_some (b:=a) ?_).trans (congrArg (List.cons a) (List.filterMap_cons_some (b:=b) ?_))
  .show (if (env.kindOf a==some .local&&pa.line==pa.line)=true then some a else none)=some a
   rw[ka];exact if_pos (beq_self_eq_true _)
  .show (if (env.kindOf b==some .local&&pb.line==pa.line)=true then some b else none)=some b
   rw[kb];exact if_pos hl
 unfold swappedStores
 dsimp only
 rw[hn]
 exact ZE (bor rfl (bor rfl bk)) (ZE (bor (YZ h1) (bor (YZ h2) rfl)) (ZE (bor rfl (by rw[Zj hab];rfl)) (ZE hf (ZE hk rfl))))
set_option tactic.hygienic true in
theorem RR{m:ME Fn}{a b:Str}{pa pb tpos p2:Pos}{k k2:Nat}{v1 v2:Expr}{i j:Nat}(h1:Ar v1=true)(h2:Ar v2=true)(la:ns.lookup a=some .local)(lb:ns.lookup b=some .local)(hl:(pb.line==pa.line)=true)(hab:a≠b)
  (hf:[v1,v2].all (foldedForSure 8)=false) (hk:[v1,v2].all (constantsAlone 8)=false) (hij:i≠j) (hi:Γ[i]? =some a) (hj:Γ[j]? =some b) (nd:Γ.Nodup) (h:LE U xc C A Ad env n ns Γ m (.Tuple [v1,v2] k2 p2)):
  SS U xc C A Ad env n ns Γ (.asgT [i,j] m) (.Assign [.Tuple [.Name a pa,.Name b pb] k tpos] (.Tuple [v1,v2] k2 p2) pos):=by
 intro X ρ H s vs Q E sx x eo hp
 have hsw:=Rz (k:=k) (k2:=k2) (tpos:=tpos) (p2:=p2) sx.ek h1 h2 la lb hl hab hf hk
 refine Assign_Tuple_swapped (names:=[a,b]) ?_ (by rfl) hsw
 refine h X sx ρ H s vs _ E x eo (hp.bnd (rel:=Aq U) fun v H1 ρ1 v' h1 Bk _ l1 x1 r1 AS=> ?_)
 obtain⟨i',c,rfl,hcell,Cb⟩:=Ko AS
 cases c<;>first | exact Cb.elim | skip
 rename_i xs
 obtain⟨vs',hset,hp3⟩:=I0 Cb
 obtain⟨a',e1,lo,ws,il,vv⟩:=FS.at (s:={ s with heap:=h1,toks:=Bk}) x1 hcell
 obtain⟨p,ep,rfl⟩:=r1
 rw[e1]at ep;cases ep
 match xs,hset,ws,vv with
 | [x1',x2'],hset,[w1,w2],⟨r1,r2,_⟩=>
  have hL:[a,b].length=#[w1,w2].size:=rfl
  rw[hL]
  refine unpackItems_tuple (s:={ s with heap:=h1,toks:=Bk}) (items:=#[w1,w2]) sx.cx.hh il fun h2 he=> ?_
  have x2:AL U X ρ1 H1 h2:=by
   have hs:∀b o,h1.get? b=some o->h2.get? b=some o:=fun b o g=>he b o (Nat.ne_of_lt (Heap.lt_size g)) g
   exact x1.keeps hs
  have e2:Eg [j,i] [x2',x1'] vs=some vs':=by
   have:Eg [i,j] [x1',x2'] vs=some vs':=hset
   rw[<-this]
   simp only [Eg]
   rw[List.set_comm _ _ hij]
  refine EP (fun p=>bindName env p.1) (fun p v Q E s hq=>wpAny_bindName hq) [j,i] [(b,pb),(a,pa)] [x2',x1'] [w2,w1] X vs vs' _ _ sx x2 (eo.mono l1) ⟨r2,r1,trivial⟩ rfl (fun q r p a b=> ?_) nd e2 fun X' h' CG sm sx' x' eo'=> ?_
  .match q,a,b with
   | 0,a,b=>
    cases a;cases b
    exact⟨hj,by unfold A2;rw[lb];rfl⟩
   | 1,a,b=>
    cases a;cases b
    exact⟨hi,by unfold A2;rw[la];rfl⟩
   | q+2,a,b=>simp at a
  .exact hp3 X' ρ1 h' CG sm sx' (BF _) x' eo'
 | [],hset,_,_=>cases hset
 | [_],hset,_,_=>cases hset
 | _::_::_::_,hset,_,_=>cases hset
 | [_,_],_,[],vv=>exact vv.elim
 | [_,_],_,[_],vv=>exact vv.2.elim
 | [_,_],_,_::_::_::_,vv=>exact vv.2.2.elim
theorem Ue{m:ME Fn}{e:Expr}{i:Nat}{nm:Str}{px:Pos}{sem:PySem.Env->Option (Value->Sem Unit)->Sem Value}(hi:Γ[i]? =some nm)(nd:Γ.Nodup)(hk:ns.lookup nm=some .local)
  (hx:∀X env,AJ X Ad env ns->exec (.Assign [.Name nm px] e pos) env=(do standAt pos;(sem env (some (assign (.Name nm px) env)) >>= fun J=>pure ());pure .next))
  (h:∀X,SX U A X Ad env n ns->Tw U xc C A X env Γ m (sem env)):
  SS U xc C A Ad env n ns Γ (.asg i m) (.Assign [.Name nm px] e pos):=by
 intro X ρ H s vs Q E sx x eo hp
 rw[hx X env sx.ek]
 refine As (wpAny_standAt (As (As ?_)))
 have hpE:=hp.bnd (rel:=Aq U) (Q1:=fun J J=>True) fun v H1 ρ1 v' h1 Bk J l1 x1 r1 AS=>trivial
 refine wpAny_mono (h X sx ρ H s vs (some (assign (.Name nm px) env)) (fun J J=>True) (fun J s'=>Q .next s') E x eo hpE fun ρ1 h1 Bk l1=> ?_) (fun J s' hq=>BE (BE hq)) fun J J e=>e
 intro D Cd ρ' H' v h' CG oC mC l2 F Dn r er _
 unfold compPost
 dsimp only
 have gC:=F.exGet (p:=(Cd,oC)) (.head _)
 have AS:Bw U xc A Ad env n ns Γ X ρ (Mine.ret (vs.set i (some v),Option.none) H') Q E s:=by
  change Bw _ _ _ _ _ _ _ _ _ _ (bnd _ _ _) _ _ _ at hp
  unfold bnd at hp
  rw[er]at hp
  exact hp
 refine PySem.wpAny_assign_Name (Fs (s:={ s with heap:=h',toks:=CG}) (ex1:=(Cd,oC)::X.ex) sx F ((eo.mono l1).mono l2) hi nd (by unfold A2;rw[hk];rfl) r fun X' h2 tk2 sm sx' x' eo'=> ?_)
 refine⟨mC,Dn _ (x'.exGet (p:=(Cd,oC)) (.head _)),fun h3 hs=> ?_⟩
 have x3:=FS.dropEx (X:=X') (ex:=X.ex) x' hs.extBut
 have ex':X'.withEx X.ex=X':=by rw[<-sm.ex]
 rw[ex']at x3
 exact AS X' ρ' h3 tk2 sm sx' (l1.trans l2) x3 eo'
theorem Rt(x:AL U X ρ H s.heap){o v:V}{o' v':Value}{Q:Value->Shared->Prop}(vo:Aq U ρ o o')(vv:Aq U ρ v v')(hp:Ae (Aq U) U xc X ρ (bnd (CI o v) (fun J=>Mine.ret o) H) Q E s):
  wpAny (model U.prog U.w) A (inplaceOp .Add o' v') Q E s:=by
 unfold CI at hp
 by_cases hov:o=v
 .rw [if_pos hov]at hp;exact hp.elim
 rw[if_neg hov]at hp
 obtain⟨i,c,rfl,hc,hp⟩:=QY hp
 refine Bx (P:=fun v=>Aq U ρ v v'->_) hp.as (fun j d hd hp vv=> ?_) vv
 refine SM (P:=fun c=>H[i]? =some c->_) hp (fun xs hp hc=>SM (P:=fun d=>H[j]? =some d->_) hp (fun ys hp hd=>Gc hp fun hl hp=> ?_) hd) hc
 have vo':=vo
 revert vo'
 refine vo.refE (P:=fun y=>Aq U ρ _ y->wpAny _ _ (inplaceOp _ y _) _ _ _) fun p ep=>vv.refE (P:=fun y=>Aq U ρ _ _->wpAny _ _ (inplaceOp _ _ y) _ _ _) fun q eq vo'=> ?_
 obtain⟨vs,n,ws,n2,g1,g2,hz,fx⟩:=x.ext ep eq hc hd hl
 exact Li ⟨_,g1,rfl⟩ ⟨_,g2,rfl⟩ (call_meets PySem.F.slot_list_iadd ⟨_,g1,rfl⟩ PySem.F.entry_list_iadd (PySem.F.args_list_iadd_2 _ _) (PySem.AutoSeq1.list___iadd___list_list_0 p.1 vs.toArray n q.1 ws.toArray n2 (fun h=>Ou hz ((DN _ _).mp h).2) (BY (Nat.le_trans (Nat.le_add_right _ _) hz)) (Nat.le_succ_of_le (BY hz))) ⟨g1,g2,hp ρ (.ref p.1) _ s.toks (BF _) fx vo'⟩)
theorem US{m:ME Fn}{e:Expr}{i:Nat}{nm:Str}{px:Pos}(hi:Γ[i]? =some nm)(nd:Γ.Nodup)(hk:ns.lookup nm=some .local)(h:LE U xc C A Ad env n ns Γ m e):
  SS U xc C A Ad env n ns Γ (.augL i m) (.AugAssign (.Name nm px) .Add e pos):=by
 intro X ρ H s vs Q E sx x eo hp
 obtain⟨o,ho,hp⟩:=I0 hp
 have hv:vs[i]? =some (some o):=by
  cases q:vs[i]? with
  | none=>rw[q]at ho;cases ho
  | some w=>rw[q]at ho;cases w with | none=>cases ho | some w=>cases ho;rfl
 have hx:env.kindOf nm=some .local:=by unfold PySem.Env.kindOf;rw[sx.ek.names];exact hk
 obtain⟨y,hy,ly⟩:=eo.get i o nm hv hi (by rw[hx];rfl)
 refine wpAny_AugAssign_Name ?_
 have hm:X.m nm=some y:=by
  rcases ly with⟨_,_,c⟩ | ⟨a | a,_⟩ | ⟨_,o2,m2,b1,b2,b3⟩
  .exact c
  .rw [hx]at a;cases a
  .rw [hx]at a;cases a
  .exfalso
   obtain⟨F,ps,p,N,D,lo⟩:=x
   exact(N (env.locals,o2) (B0 _ b1)).2.1 sx.loc
 refine wpAny_loadName_local sx.ek.kind hx (by rw[sx.loc];exact x.fr.ns) hm ?_
 refine h X sx ρ H s vs _ E x eo (hp.bnd (rel:=Aq U) fun v H1 ρ1 v' h1 Bk J l1 x1 r1 AS=> ?_)
 have e0:(bnd (CI o v) (fun J=>Mine.ret (vs,Option.none)) H1:R (Mine.Env×Option V))=bnd (bnd (CI o v) (fun J=>Mine.ret o)) (fun J=>Mine.ret (vs,Option.none)) H1:=by
  simp only [bnd]
  cases CI o v H1<;>rfl
 rw[e0]at AS
 refine Rt x1 (hy.mono l1) r1 (AS.bnd (rel:=Aq U) fun z H2 ρ2 z' h2 tk2 he l2 x2 r2 Cb=> ?_)
 have hz:z=o:=by
  unfold bnd at he
  cases q:CI o v H1 with
  | ok a H3=>rw[q]at he;cases he;rfl
  | exc a H3=>rw[q]at he;cases he
  | bad=>rw[q]at he;cases he
 subst hz
 refine Fs (s:={ s with heap:=h2,toks:=tk2}) (ex1:=X.ex) sx x2 ((eo.mono l1).mono l2) hi nd (by unfold A2;rw[hk];rfl) r2 fun X' h' CG sm sx' x' eo'=> ?_
 have ex':X'.withEx X.ex=X':=by rw[<-sm.ex]
 rw[ex']at x'
 have e3:vs.set i (some z)=vs:=by
  apply List.ext_getElem?
  intro j
  by_cases hj:i=j
  .subst hj;rw[List.getElem?_set_self (by rw[eo.len];exact(Er.mp hi).1),hv]
  .rw [List.getElem?_set_ne hj]
 rw[e3]at eo'
 exact Cb X' ρ2 h' CG sm sx' (BF _) x' eo'
theorem Ik(f:Array Value->Array Value)(o:Obj):(Obj.mapFields f o).dict=o.dict:=by
 obtain⟨c,d,t,s⟩:=o
 cases t<;>rfl
inductive eO(h base:Heap)(e:Addr)(cls:Value)(d L:Addr):Prop
 | mk (oe:_) (vs:_) (T:_) (oT:_) (ts:_) (q0:h.get? e=some oe) (q1:oe.cls=cls) (q2:oe.dict=some d) (q3:oe.data=.fields vs) (q4:1 < vs.size) (q5:vs[1]? =some (.ref T)) (q6:base.get? T=none) (q7:T≠e) (q8:h.get? T=some oT) (q9:oT.data=.fields ts) (q10:ts[3]? =some (rawInt L)):eO h base e cls d L
inductive UN(cls:Value)(base:Heap)(l:List PySem.Env)(L:Addr)(e:Addr)(msg:Nat)(news:List (Addr×Obj))(h:Heap):Prop
 | mk (B:_) (d:_) (es:_) (n:_) (t:_) (q0:base.StaysIn B) (q1:(∀q ∈ news,B.get? q.1=some q.2/\base.get? q.1=none)) (q2:B.StaysIn h) (q3:B.get? e=none) (q4:h.FunFrames B l) (q5:eO h B e cls d L) (q6:B.get? d=some (W.dictOf es n)) (q7:getL "message" es=some (some (.str (wd msg) t))):UN cls base l L e msg news h
section
variable{M:Model}{cls:Value}{base:Heap}{outer l:List PySem.Env}{L L' e:Addr}{msg:Nat}{news:List (Addr×Obj)}{Q:Unit->Shared->Prop}
theorem Jf{B:Heap}{d:Addr}{oe:Obj}{vs:Array Value}{head:Value}{hadNext:Bool}(hfr:A.frames=some (env::outer))(hf:env.frame=some L)(hl:s.heap.FunFrames B (env::outer))(hB:B.StaysIn s.heap)(hBe:B.get? e=none)
  (he:s.heap.get? e=some oe) (hc:oe.cls=cls) (hd:oe.dict=some d) (hv:oe.data=.fields vs) (hsz:1 < vs.size)
  (hQ:∀h',B.StaysIn h'->h'.FunFrames B (env::outer)->eO h' B e cls d L->s.heap.UpToSlots h'->Q () { s with heap:=h'}):
  wpAny M A (do let a <-frameOf env;let pl <-entryPlaceOf L hadNext;let b <-EntryCells.newEntry head a .none (rawInt L) .none pl;setField (.ref e) 1 b) Q E s:=by
 have JK:e ∉ (env::outer).filterMap (·.frame):=fun hm=>by
  obtain⟨_,o,ho,hnf⟩:=hl.mem hm
  rw[he]at ho;cases ho
  exact hnf vs hv
 refine As (wpAny_frameOf_fun hfr hl hf fun h₁ hs₁=> ?_)
 refine As (wpAny_entryPlaceOf fun pl hpl=> ?_)
 unfold EntryCells.newEntry newFields
 refine As (wpAny_newObj_type ?_ (hpl.sizeOk5 _ _ _ _ _))
 have he₁:h₁.get? e=some oe:=(hs₁.2.1 e JK).trans he
 have kb₁:B.StaysIn h₁:=fun b o hbo=>(hs₁.2.1 b fun hm=>by rw[(hl.mem hm).1]at hbo;cases hbo).trans (hB b o hbo)
 generalize hob:({ cls:= .type "traceback",dict:=none,data:= .fields ([head,.ref L,.none,rawInt L,.none]++(if pl.isEmpty then List.replicate 6 Value.none else pl)).toArray}:Obj)=ob
 have hob':∃ts:Array Value,ob.data=.fields ts/\ts[3]? =some (rawInt L):=⟨_,by rw[<-hob],by simp⟩
 have he₂:=Ds (h:=h₁) ob he₁
 refine wpAny_setField he₂ hv hsz ?_
 have hv₃:=Obj.data_mapFields hv (·.setIfInBounds 1 (Value.ref h₁.objs.size))
 have he₃:=Heap.get?_update_self (Obj.mapFields (·.setIfInBounds 1 (Value.ref h₁.objs.size))) he₂ (Obj.isFreed_of_fields hv₃)
 have hTe:h₁.objs.size≠e:=Nat.ne_of_gt (Heap.lt_size he₁)
 have hT₃:=(Heap.get?_update_other (h₁.push ob) (Obj.mapFields (·.setIfInBounds 1 (Value.ref h₁.objs.size))) (Ne.symm hTe)).trans (Heap.get?_push_size h₁ (by rw[<-hob];rfl))
 have keep:∀b o,b≠e->h₁.get? b=some o->((h₁.push ob).update e (Obj.mapFields (·.setIfInBounds 1 (Value.ref h₁.objs.size)))).get? b=some o:=fun b o hbe hb=>by
  rw[Heap.get?_update_other _ _ (Ne.symm hbe)]
  exact Ds _ hb
 have apart:∀b o,s.heap.get? b=some o->(∀vs,o.data≠.fields vs)->b≠e:=fun b o hb hnf q=>by
  rw[q,he]at hb;cases hb
  exact hnf vs hv
 obtain⟨ts,hts,h3⟩:=hob'
 refine hQ _ (fun b o hbo=>keep b o (fun q=>by rw[q,hBe]at hbo;cases hbo) (kb₁ b o hbo)) (hl.of_keeps fun b o hb hnf=> ?_) ?_ fun b o hb hnf=> ?_
 .obtain ⟨sl,hs⟩:=hs₁.2.2 b o hb
  exact⟨_,keep b _ (apart b o hb hnf) hs,rfl⟩
 .exact ⟨_,_,h₁.objs.size,ob,ts,he₃,(Obj.cls_mapFields ..).trans hc,(Ik _ _).trans hd,hv₃,by simpa using hsz,by simp[hsz],kb₁.fresh,hTe,hT₃,hts,h3⟩
 .obtain ⟨sl,hs⟩:=hs₁.2.2 b o hb
  exact⟨sl,keep b _ (apart b o hb hnf) hs⟩
theorem IA(hfr:A.frames=some (env::outer))(hf:env.frame=some L)(x:EJ cls base (env::outer) L' e msg news s.heap)(hLL:L'=L)
  (hQ:∀h',UN cls base (env::outer) L e msg news h'->s.heap.UpToSlots h'->Q () { s with heap:=h'}):wpAny M A (noteFrame (.ref e) env) Q E s:=by
 subst hLL
 obtain⟨B,d,es,n,t,b1,b2,b3,b4,b5,⟨oe,vs,h1,h2,h3,h4,h5,h6⟩,b7,b8⟩:=x
 unfold noteFrame
 simp only [hf]
 rcases h6 with h6 | ⟨T,oT,ts,h6,h7,h8,h9,h10,h11⟩
 .refine As (wpAny_field h1 h4 h6 ?_)
  rw[if_neg (by decide)]
  exact Jf hfr hf b5 b3 b4 h1 h2 h3 h4 h5 fun h' k1 k2 k3 k4=>hQ h' ⟨B,d,es,n,t,b1,b2,k1,b4,k2,k3,b7,b8⟩ k4
 .refine As (wpAny_field h1 h4 h6 ?_)
  rw[if_pos (show(Value.ref T != Value.none)=true from by simp)]
  rcases h11 with h11 | h11
  .refine As (wpAny_field h9 h10 h11 ?_)
   rw[if_neg (show ¬((Value.none==rawInt L')=true)from by simp[rawInt])]
   refine As (wpAny_setField h9 h10 (Array.getElem?_eq_some_iff.mp h11).1 ?_)
   have other:∀b,b≠T->(s.heap.update T (Obj.mapFields (·.setIfInBounds 3 Value.none))).get? b=s.heap.get? b:=fun b hb=>Heap.get?_update_other _ _ (Ne.symm hb)
   have apart:∀b o,s.heap.get? b=some o->(∀vs,o.data≠.fields vs)->b≠T:=fun b o hb hnf q=>by
    rw[q,h9]at hb;cases hb
    exact hnf ts h10
   refine Jf hfr hf (b5.of_keeps fun b o hb hnf=>⟨o,(other b (apart b o hb hnf)).trans hb,rfl⟩) (fun b o hbo=>(other b fun q=>by rw[q,h7]at hbo;cases hbo).trans (b3 b o hbo)) b4
    ((other e (Ne.symm h8)).trans h1) h2 h3 h4 h5 fun h' k1 k2 k3 k4=>hQ h' ⟨B,d,es,n,t,b1,b2,k1,b4,k2,k3,b7,b8⟩ fun b o hb hnf=>k4 b o ((other b (apart b o hb hnf)).trans hb) hnf
  .refine As (wpAny_field h9 h10 h11 ?_)
   rw[if_pos (show(rawInt L'==rawInt L')=true from by simp)]
   exact BE (hQ s.heap ⟨B,d,es,n,t,b1,b2,b3,b4,b5,⟨oe,vs,T,oT,ts,h1,h2,h3,h4,h5,h6,h7,h8,h9,h10,h11⟩,b7,b8⟩ (Heap.UpToSlots.refl _))
theorem Gh{fl:Option Addr}(x:UN cls base l L e msg news s.heap)(hfl:fl=none\/fl=some L)
  (hQ:∀h',EJ cls base l L e msg news h'->(fl=some L->UN cls base l L e msg news h')->(∀L₂ l₂,fl=none->l=env::l₂->EJ cls base l₂ L₂ e msg news h')->s.heap.UpToSlots h'->Q () { s with heap:=h'}):wpAny M A (setFlight (.ref e) fl) Q E s:=by
 obtain⟨B,d,es,n,t,b1,b2,b3,b4,b5,⟨oe,vs,T,oT,ts,h1,h2,h3,h4,h5,h6,h7,h8,h9,h10,h11⟩,b7,b8⟩:=x
 have other:∀b,b≠T->(s.heap.update T (Obj.mapFields (·.setIfInBounds 3 (fl.elim Value.none fun f=>rawInt f)))).get? b=s.heap.get? b:=
  fun b hb=>Heap.get?_update_other _ _ (Ne.symm hb)
 have apart:∀b o,s.heap.get? b=some o->(∀vs,o.data≠.fields vs)->b≠T:=fun b o hb hnf q=>by
  rw[q,h9]at hb;cases hb
  exact hnf ts h10
 have h12:3 < ts.size:=(Array.getElem?_eq_some_iff.mp h11).1
 unfold setFlight
 refine As (wpAny_field h1 h4 h6 ?_)
 rw[if_pos (show(Value.ref T != Value.none)=true from by simp)]
 have g1:B.StaysIn (s.heap.update T (Obj.mapFields (·.setIfInBounds 3 (fl.elim Value.none fun f=>rawInt f)))):=fun b o hbo=>(other b fun q=>by rw[q,h7]at hbo;cases hbo).trans (b3 b o hbo)
 have g2:(s.heap.update T (Obj.mapFields (·.setIfInBounds 3 (fl.elim Value.none fun f=>rawInt f)))).FunFrames B l:=b5.of_keeps fun b o hb hnf=>⟨o,(other b (apart b o hb hnf)).trans hb,rfl⟩
 have he:=(other e (Ne.symm h8)).trans h1
 have hT:=Heap.get?_update_self (Obj.mapFields (·.setIfInBounds 3 (fl.elim Value.none fun f=>rawInt f))) h9 (Obj.isFreed_of_fields (Obj.data_mapFields h10 _))
 have hTd:=Obj.data_mapFields h10 (·.setIfInBounds 3 (fl.elim Value.none fun f=>rawInt f))
 refine wpAny_setField h9 h10 h12 (hQ _ ⟨B,d,es,n,t,b1,b2,g1,b4,g2,⟨oe,vs,he,h2,h3,h4,h5,.inr ⟨T,_,_,h6,h7,h8,hT,hTd,?_⟩⟩,b7,b8⟩ (fun e'=> ?_) (fun L₂ l₂ e' el=> ?_) fun b o hb hnf=>⟨o.slots,(other b (apart b o hb hnf)).trans hb⟩)
 .rcases hfl with rfl | rfl
  .left;simp[h12]
  .right;simp[h12]
 .subst e'
  exact⟨B,d,es,n,t,b1,b2,g1,b4,g2,⟨oe,vs,T,_,_,he,h2,h3,h4,h5,h6,h7,h8,hT,hTd,by simp[h12]⟩,b7,b8⟩
 .subst e' el
  exact⟨B,d,es,n,t,b1,b2,g1,b4,g2.2.2,⟨oe,vs,he,h2,h3,h4,h5,.inr ⟨T,_,_,h6,h7,h8,hT,hTd,.inl (by simp[h12])⟩⟩,b7,b8⟩
theorem IB(hfr:A.frames=some (env::outer))(hf:env.frame=some L)(x:EJ cls base (env::outer) L e msg news s.heap)(L₂:Addr)
  (hQ:∀h',EJ cls base outer L₂ e msg news h'->s.heap.UpToSlots h'->Q () { s with heap:=h'}):wpAny M A (leaving env (.ref e)) Q E s:=by
 unfold leaving
 refine As (IA hfr hf x rfl fun h1 k1 k2=> ?_)
 refine Gh (env:=env) (s:={ s with heap:=h1}) k1 (.inl rfl) fun h2 J J k3 k4=>hQ h2 (k3 L₂ outer rfl rfl) (k2.trans k4)
theorem TP{E':Value->Shared->Prop}(hfr:A.frames=some (env::outer))(hf:env.frame=some L)(x:EJ cls base (env::outer) L e msg news s.heap)
  (hE:∀h',EJ cls base (env::outer) L e msg news h'->s.heap.UpToSlots h'->E' (.ref e) { s with heap:=h'}):notedBy M A env (cameBackBy M A env E') (.ref e) s:=by
 unfold notedBy cameBackBy
 refine IA hfr hf x rfl fun h1 k1 k2=> ?_
 have k1':=k1
 obtain⟨B,d,es,n,t,b1,b2,b3,b4,b5,⟨oe,vs,T,oT,ts,h1',h2,h3,h4,h5,h6,_⟩,b7,b8⟩:=k1'
 refine As (wpAny_field h1' h4 h6 ?_)
 rw[if_neg (show ¬((Value.ref T==Value.none)=true)from by simp)]
 rw[hf]
 exact Gh (env:=env) (s:={ s with heap:=h1}) k1 (.inr rfl) fun h2 k3 J J k4=>hE h2 k3 (k2.trans k4)
end
theorem SX.ex(sx:SX U A X Ad env n ns)(ex:List (Addr×Obj)):SX U A (X.withEx ex) Ad env n ns:=⟨sx.cx.ex ex,sx.ek.ex ex,sx.loc,sx.cel,sx.inj,sx.og⟩
theorem EO.re(sx:SX U A X Ad env n ns)(F:AL U X ρ H h)(eo:EO U X ρ env Γ vs)(ex:List (Addr×Obj)):EO U (X.withEx ex) ρ env Γ vs:=by
 obtain⟨Fr',ps,p,N,D,lo⟩:=F
 refine⟨eo.len,fun i v x h1 h2 h3=> ?_⟩
 obtain⟨y,hy,ly⟩:=eo.get i v x h1 h2 h3
 refine⟨y,hy,?_⟩
 rcases ly with l | ⟨a,c,o,b1,b2,b3⟩ | ⟨a,o,m,b1,b2,b3⟩
 .exact .inl l
 .obtain ⟨o2,v0,m2,d2⟩:=sx.cel x c b1
  have e1:=(N (c,o) (B0 _ b2)).1
  have e2:=(N (c,o2) (B0 _ (B0 _ m2))).1
  dsimp only at e1 e2
  rw[e1]at e2
  cases e2
  exact .inr (.inl ⟨a,c,o,b1,B0 _ m2,b3⟩)
 .exact absurd sx.loc (N (env.locals,o) (B0 _ b1)).2.1
theorem EJ.sub{cls:Value}{base:Heap}{l:List PySem.Env}{L e:Addr}{msg:Nat}{news news':List (Addr×Obj)}(x:EJ cls base l L e msg news h)(hs:∀p ∈ news',p ∈ news):EJ cls base l L e msg news' h:=by
 obtain⟨B,d,es,n,t,b1,b2,b3,b4,b5,b6,b7,b8⟩:=x
 exact⟨B,d,es,n,t,b1,fun q hq=>b2 q (hs q hq),b3,b4,b5,b6,b7,b8⟩
theorem Sp.drop{p:Addr×Obj}{ex:List (Addr×Obj)}{msg:Nat}{e:Addr}(x:Sp U xc (X.withEx (p::ex)) msg ρ H e h):Sp U xc (X.withEx ex) msg ρ H e h:=by
 obtain⟨ps,h₂,p1,D,lo,st,F,u⟩:=x
 have sub:((X.withEx ex).px++ps.flatten).Sublist ((X.withEx (p::ex)).px++ps.flatten):=((List.sublist_cons_self _ _).append_left _).append_right _
 refine⟨ps,h₂,p1,?_,lo,st.sub fun q hq=>sub.subset hq,F,u⟩
 unfold By at D ⊢
 exact D.sublist (sub.map _)
theorem MI{msg:Nat}{e:Addr}{E':Value->Shared->Prop}(cx:Cx U A X Ad n)(he:env=Ad)(x:Sp U xc X msg ρ H e s.heap)(hE:∀h',Sp U xc X msg ρ H e h'->E' (.ref e) { s with heap:=h'}):
  notedBy (model U.prog U.w) A env (cameBackBy (model U.prog U.w) A env E') (.ref e) s:=by
 subst he
 obtain⟨ps,h₂,p1,D,lo,st,F,u⟩:=x
 obtain⟨A₀,outer,_,hl⟩:=cx.B
 have hA:=cx.hA
 rw[hl]at st hA
 refine TP hA cx.hf st fun h' k1 k2=>hE h' ⟨ps,h₂,p1,D,lo,?_,F,u.trans k2⟩
 rw[hl];exact k1
inductive X3(U:Un)(xc:Value)(A:Around)(Ad env:PySem.Env)(n:Nat)(ns:Dm)(Γ:List Str)(X:Fx)(ρ0:A9)(items:List V)(Ready:MH->Prop)(st:Nat->Obj->Prop)(f:V->Mine.Env->M (Mine.Env×Option V))(post:M Unit)(I:Addr)(Q:Flow->Shared->Prop)(E:Value->Shared->Prop)(s0:Shared)(j:Nat)(s':Shared):Prop
 | mk (k:_) (Xk:_) (ρk:_) (Hk:_) (h:_) (tk:_) (vsk:_) (oI:_) (q0:s'={ s0 with heap:=h,toks:=tk}) (q1:j=items.length+1 - k) (q2:k<=items.length) (q3:CH X Xk) (q4:SX U A Xk Ad env n ns) (q5:ρ0 <+:ρk) (q6:AL U (Xk.withEx ((I,oI)::X.ex)) ρk Hk h) (q7:st k oI) (q8:Ready Hk) (q9:EO U Xk ρk env Γ vsk) (q10:Bw U xc A Ad env n ns Γ Xk ρk (EW f post (items.drop k) vsk Hk) Q E s'):X3 U xc A Ad env n ns Γ X ρ0 items Ready st f post I Q E s0 j s'
theorem Fl{X Y:Fx}(e:Y.ex=X.ex):Y.withEx X.ex=Y:=by rw[<-e]
theorem HX{nm:Str}{i:Nat}{px:Pos}{body:List Stmt}{b:List (MS Fn)}{I:Addr}{items:List V}{Ready:MH->Prop}{st:Nat->Obj->Prop}{post:M Unit}{Q:Flow->Shared->Prop}{s0:Shared}(he:env=Ad)
  (src:Yh U A I items Ready ρ0 st) (hpost:∀H,(post H=.ok () H/\Ready H)\/post H=.bad) (hi:Γ[i]? =some nm) (nd:Γ.Nodup) (hk:A2 ns nm=true) (hb:N1 U xc C A Ad env n ns Γ b body)
  {m₀:Nat} {s₁:Shared} (h:X3 U xc A Ad env n ns Γ X ρ0 items Ready st (fun x env=>Am C b (env.set i (some x))) post I Q E s0 m₀ s₁):
  codeAny (model U.prog U.w) A (.forLoop (.Name nm px) (.ref I) body [] env) (fun r s'=>match r with | .ok f=>Q f s' | .error e=>cameBackBy (model U.prog U.w) A env E e s') s₁:=by
 refine codeAny_forLoop (fun j s'=>X3 U xc A Ad env n ns Γ X ρ0 items Ready st (fun x env=>Am C b (env.set i (some x))) post I Q E s0 j s') ?_ m₀ h
 rintro j s' ⟨k,Xk,ρk,Hk,h,tk,vsk,oI,rfl,rfl,hkl,sm,sx,l0,F,hst,hrd,eo,hp⟩
 have gI:h.get? I=some oI:=F.exGet (p:=(I,oI)) (.head _)
 cases hv:items[k]? with
 | none=>
  have hkl:k=items.length:=Nat.le_antisymm hkl (by rw[List.getElem?_eq_none_iff]at hv;exact hv)
  subst hkl
  refine src.done (Xk.withEx ((I,oI)::X.ex)) ρk Hk _ oI _ _ l0 F gI hst hrd fun h₁ hx=> ?_
  rw[List.drop_length]at hp
  have F2:=F.dropEx hx
  rw[Fl sm.ex]at F2
  exact wpAny_execs_nil (hp Xk ρk h₁ tk .refl sx (BF _) F2 eo)
 | some v=>
  have Ef:k < items.length:=(Er.mp hv).1
  have hdrop:items.drop k=v::items.drop (k+1):=by
   rw[List.drop_eq_getElem_cons Ef]
   rw[List.getElem?_eq_getElem Ef]at hv
   rw[Option.some.inj hv]
  refine src.item k (Xk.withEx ((I,oI)::X.ex)) ρk Hk _ oI v _ _ l0 hv F gI hst hrd fun v' h₁ oI' tk₁ hv' hs₁ ho₁ hst'=> ?_
  have F1:AL U (Xk.withEx ((I,oI')::X.ex)) ρk Hk h₁:=FS.setEx (X:=Xk.withEx ((I,oI)::X.ex)) (pre:=[]) F rfl hs₁ ho₁
  refine PySem.wpAny_assign_Name (Fs (s:={ s0 with heap:=h₁,toks:=tk₁}) (ex1:=(I,oI')::X.ex) sx F1 eo hi nd hk hv' fun X1 h2 tk2 sm1 sx1 x1 eo1=> ?_)
  have sx2:=sx1.ex ((I,oI')::X.ex)
  have eo2:EO U (X1.withEx ((I,oI')::X.ex)) ρk env Γ (vsk.set i (some v)):=by
   have:=EO.re (X:=X1.withEx ((I,oI')::X.ex)) (h:=h2) (H:=Hk) sx2 x1 (vs:=vsk.set i (some v)) (Γ:=Γ) ⟨eo1.len,fun j w y a b c=> ?_⟩ ((I,oI')::X.ex)
   .exact this
   .obtain ⟨z,hz,lz⟩:=eo1.get j w y a b c
    refine⟨z,hz,?_⟩
    have up:∀q,q ∈ X1.px->q ∈ (X1.withEx ((I,oI')::X.ex)).px:=fun q hq=>by
     rcases List.mem_append.mp hq with hq | hq
     .exact B0 _ hq
     .refine Da _ (.tail _ ?_)
      rw[<-(sm.trans sm1).ex];exact hq
    rcases lz with l | ⟨a,c,o,b1,b2,b3⟩ | ⟨a,o,m,b1,b2,b3⟩
    .exact .inl l
    .exact .inr (.inl ⟨a,c,o,b1,up _ b2,b3⟩)
    .exact .inr (.inr ⟨a,o,m,up _ b1,b2,b3⟩)
  refine hb (X1.withEx ((I,oI')::X.ex)) ρk Hk { s0 with heap:=h2,toks:=tk2} _ _ _ sx2 x1 eo2 ?_
  rw[hdrop,EW]at hp
  unfold Mine.bnd at hp
  have down:∀X2:Fx,CH (X1.withEx ((I,oI')::X.ex)) X2->CH X (X2.withEx X.ex):=fun X2 s2=>⟨s2.G.trans (sm.trans sm1).G,s2.L.trans (sm.trans sm1).L,s2.base.trans (sm.trans sm1).base,s2.l.trans (sm.trans sm1).l,rfl⟩
  have downk:∀X2:Fx,CH (X1.withEx ((I,oI')::X.ex)) X2->CH Xk (X2.withEx X.ex):=fun X2 s2=>⟨s2.G.trans sm1.G,s2.L.trans sm1.L,s2.base.trans sm1.base,s2.l.trans sm1.l,sm.ex.symm⟩
  cases hfv:Am C b (vsk.set i (some v)) Hk with
  | bad=>rw[hfv]at hp;exact hp
  | exc msg H1=>
   rw[hfv]at hp
   intro X2 ρ2 e h3 tk3 s2 l2 x3
   have hx2:X2=X2.withEx ((I,oI')::X.ex):=(Fl (X:=X1.withEx ((I,oI')::X.ex)) s2.ex).symm
   rw[hx2]at x3
   have x4:=x3.drop
   refine MI (s:={ s0 with heap:=h3,toks:=tk3}) (X:=X2.withEx X.ex) ((sx.cx.same (downk X2 s2))) he x4 fun h4 x5=> ?_
   exact hp (X2.withEx X.ex) ρ2 e h4 tk3 (downk X2 s2) l2 x5
  | ok p H1=>
   rw[hfv]at hp
   obtain⟨vs1,fl⟩:=p
   dsimp only at hp
   intro X2 ρ2 h3 tk3 s2 sx3 l2 F3 eo3
   have sx4:=sx3.ex X.ex
   have eo4:=eo3.re sx3 F3 X.ex
   have hx2:X2=X2.withEx ((I,oI')::X.ex):=(Fl (X:=X1.withEx ((I,oI')::X.ex)) s2.ex).symm
   have F4:AL U (X2.withEx ((I,oI')::X.ex)) ρ2 H1 h3:=by rw[<-hx2];exact F3
   cases fl with
   | some w=>
    dsimp only at hp ⊢
    intro w' r
    exact hp (X2.withEx X.ex) ρ2 h3 tk3 (downk X2 s2) sx4 l2 (F4.dropEx0) eo4 w' r
   | none=>
    dsimp only at hp ⊢
    refine⟨items.length+1 - (k+1),by exact dK ‹_›,?_⟩
    rcases hpost H1 with⟨AS,hrd1⟩ | AS
    .rw [AS]at hp
     dsimp only at hp
     refine⟨k+1,X2.withEx X.ex,ρ2,H1,h3,tk3,vs1,oI',rfl,rfl,Ef,down X2 s2,sx4,l0.trans l2,F4,hst',hrd1,eo4,?_⟩
     exact Bw.later hp (downk X2 s2) l2 _ _
    .rw [AS]at hp;exact hp.elim
theorem Bw.still{m:M (Mine.Env×Option V)}{Q:Flow->Shared->Prop}{E':Value->Shared->Prop}(hp:Bw U xc A Ad env n ns Γ X ρ (Mine.still m H) Q E s):Bw U xc A Ad env n ns Γ X ρ (m H) Q E' s:=by
 unfold Mine.still at hp
 cases q:m H with
 | ok a H1=>rw[q]at hp;exact hp
 | exc e H1=>rw[q]at hp;exact hp.elim
 | bad=>rw[q]at hp;exact hp
theorem T0{m:ME Fn}{e:Expr}{i:Nat}{nm:Str}{px p2 p3:Pos}{b:List (MS Fn)}{body:List Stmt}(ub:UB U)(he:env=Ad)(hn:Dl ns "range"=true)(hs:Ar e=true)(hi:Γ[i]? =some nm)(nd:Γ.Nodup)(hk:A2 ns nm=true)
  (h:LE U xc C A Ad env n ns Γ m e) (hb:N1 U xc C A Ad env n ns Γ b body):
  SS U xc C A Ad env n ns Γ (.forN i m b) (.For (.Name nm px) (.Call (.Name "range" p2) [e] [] p3) body [] pos):=by
 intro X ρ H s vs Q E sx x eo hp
 refine wpAny_For ?_ (Dc rfl)
 have hh:A.handled=none:=sx.cx.hh
 refine BC (BM sx.ek sx.cx.gf x hn (ub.blt "range" (by decide)) rfl (C0 (nm:="range") (by decide)) ?_)
 refine Au (P:=fun J=>True) (by simp[hs]) Dz ?_
 refine spliced_more (h X sx ρ H s vs _ E x eo (hp.bnd (rel:=Aq U) fun v H1 ρ1 v' h1 Bk J l1 x1 r1 AS=> ?_)) (AH hs)
 refine wpAny_items_nil ⟨trivial,?_⟩
 rcases SY (v:=v)with e | ⟨z,rfl,e⟩
 .rw [e]at AS;exact AS.elim
 .obtain ⟨hb',AS⟩:=(show Bw _ _ _ _ _ _ _ _ _ _ _ _ _ _ from e▸AS).nb WC
  obtain⟨t,rfl⟩:=r1
  refine call_range_1 (F9 (s:={ s with heap:=h1,toks:=Bk+1+1}) x1 (Gb (by decide) (by unfold BR;decide) hb'.2 (by have:=hb'.1;unfold BR;exact eC ‹_›)) fun h3 I F=> ?_)
  refine HX (s0:=s) (Q:=Q) (X:=X) he (Fw (U:=U) (ρ0:=ρ1) (I:=I) (lo:=0) (hi:=z) hh) (fun H=> .inl ⟨rfl,trivial⟩) hi nd hk hb (m₀:=(BV 0 z).length+1 - 0)
   ⟨0,X,ρ1,H1,h3,Bk+1+1,vs,En 0 z 0,rfl,rfl,Nat.zero_le _,.refl,sx,BF _,F,rfl,trivial,eo.mono l1,?_⟩
  rw[List.drop_zero]
  exact Bw.later AS .refl (BF _) _ _
theorem U7{m m2:ME Fn}{e e2:Expr}{i:Nat}{nm:Str}{px p2 p3:Pos}{b:List (MS Fn)}{body:List Stmt}(ub:UB U)(he:env=Ad)(hn:Dl ns "range"=true)(hs:Ar e=true)(hs2:Ar e2=true)(hi:Γ[i]? =some nm)(nd:Γ.Nodup)(hk:A2 ns nm=true)
  (h:LE U xc C A Ad env n ns Γ m e) (h2:LE U xc C A Ad env n ns Γ m2 e2) (hb:N1 U xc C A Ad env n ns Γ b body):
  SS U xc C A Ad env n ns Γ (.forR i m m2 b) (.For (.Name nm px) (.Call (.Name "range" p2) [e,e2] [] p3) body [] pos):=by
 intro X ρ H s vs Q E sx x eo hp
 refine wpAny_For ?_ (Dc rfl)
 have hh:A.handled=none:=sx.cx.hh
 refine BC (BM sx.ek sx.cx.gf x hn (ub.blt "range" (by decide)) rfl (C0 (nm:="range") (by decide)) ?_)
 refine Au (P:=fun J=>True) (by simp[hs,hs2]) Dz ?_
 refine spliced_more (h X sx ρ H s vs _ E x eo (hp.bnd (rel:=Aq U) fun v H1 ρ1 v' h1 Bk J l1 x1 r1 AS=> ?_)) (AH hs)
 refine spliced_more (h2 X sx ρ1 H1 _ vs _ E x1 (eo.mono l1) (AS.bnd (rel:=Aq U) fun w H2 ρ2 w' h2 tk2 J l2 x2 r2 Cb=> ?_)) (AH hs2)
 refine wpAny_items_nil ⟨trivial,?_⟩
 rcases SY (v:=v)with e | ⟨a,rfl,e⟩
 .rw [show Hb v w _ H2=.bad from e]at Cb;exact Cb.elim
 rcases SY (v:=w)with e | ⟨z,rfl,e⟩
 .rw [show Hb (.int a) w _ H2=.bad from e]at Cb;exact Cb.elim
 .obtain ⟨hb',Cb⟩:=Cb.nb (WC (H:=H2))
  obtain⟨t,rfl⟩:=r1
  obtain⟨u,rfl⟩:=r2
  refine call_range_2 (F9 (s:={ s with heap:=h2,toks:=tk2+1}) x2 (Gb hb'.1 hb'.2.1 hb'.2.2.2 (by have:=hb'.2.2.1;unfold BR;exact eC ‹_›)) fun h3 I F=> ?_)
  refine HX (s0:=s) (Q:=Q) (X:=X) he (Fw (U:=U) (ρ0:=ρ2) (I:=I) (lo:=a) (hi:=z) hh) (fun H=> .inl ⟨rfl,trivial⟩) hi nd hk hb (m₀:=(BV a z).length+1 - 0)
   ⟨0,X,ρ2,H2,h3,tk2+1,vs,En a z 0,rfl,rfl,Nat.zero_le _,.refl,sx,BF _,F,rfl,trivial,(eo.mono l1).mono l2,?_⟩
  rw[List.drop_zero]
  exact Bw.later (Bw.still Cb) .refl (BF _) _ _
theorem TU{m:ME Fn}{e:Expr}{i:Nat}{nm:Str}{px:Pos}{b:List (MS Fn)}{body:List Stmt}(he:env=Ad)(hset:EM e=true)(hi:Γ[i]? =some nm)(nd:Γ.Nodup)(hk:A2 ns nm=true)
  (h:LE U xc C A Ad env n ns Γ m e) (hb:N1 U xc C A Ad env n ns Γ b body):
  SS U xc C A Ad env n ns Γ (.forE i m b) (.For (.Name nm px) e body [] pos):=by
 intro X ρ H s vs Q E sx x eo hp
 have hh:A.handled=none:=sx.cx.hh
 refine wpAny_For ?_ (Dc hset)
 refine h X sx ρ H s vs _ E x eo (hp.bnd (rel:=Aq U) fun v H1 ρ1 v' h1 Bk J l1 x1 r1 AS=> ?_)
 obtain⟨j,c,rfl,hc,Cb⟩:=Ko AS
 obtain⟨xs,rfl,hl,Cb⟩:∃xs,c=.list xs/\xs.length<=BR/\Bw U xc A Ad env n ns Γ X ρ1 (still (EW (fun x env=>Am C b (env.set i (some x))) (stays (.ref j) c) xs vs) H1) Q E { s with heap:=h1,toks:=Bk}:=by
  rcases Uw (f:=fun xs=>still (EW (fun x env=>Am C b (env.set i (some x))) (stays (.ref j) c) xs vs)) hc with e | ⟨xs,h1,h2,e⟩
  .rw [e]at Cb;exact Cb.elim
  .rw [e]at Cb;exact⟨xs,h1,h2,Cb⟩
 .obtain ⟨a,e1,lo,ws,il,vv⟩:=FS.at (s:={ s with heap:=h1,toks:=Bk}) x1 hc
  obtain⟨p,ep,rfl⟩:=r1
  have ep':=ep
  rw[e1]at ep;cases ep
  refine wpAny_pyIter_list (s:={ s with heap:=h1,toks:=Bk}) il ?_
  have F:=FS.addEx (a:=h1.objs.size) (o:={ cls:= .type "list_iterator",data:= .fields #[.ref a.1,.int 0 0]}) x1 (fun b o e=>Ds _ e) (Heap.get?_push_size _ rfl) (Nat.le_refl _)
  refine HX (s0:=s) (Q:=Q) (X:=X) he (Mc (xs:=xs) hh ep') (fun H=>DX H) hi nd hk hb (m₀:=xs.length+1 - 0)
   ⟨0,X,ρ1,H1,_,Bk,vs,{ cls:= .type "list_iterator",data:= .fields #[.ref a.1,.int 0 0]},rfl,rfl,Nat.zero_le _,.refl,sx,BF _,F,⟨rfl,rfl⟩,hc,eo.mono l1,?_⟩
  rw[List.drop_zero]
  exact Bw.later (Bw.still Cb) .refl (BF _) _ _
theorem IG{f:V->Mine.Env->M (Mine.Env×Option V)}{post:M Unit}{Ready:MH->Prop}(hpost:∀H,(post H=.ok () H/\Ready H)\/post H=.bad):∀(xs:List V) (env:Mine.Env) (H:MH) (Ai:Mine.Env) (H2:MH),Ready H->EW f post xs env H=.ok (Ai,Option.none) H2->Ready H2
 | [],env,H,Ai,H2,hr,e=>by
  cases e;exact hr
 | x::r,env,H,Ai,H2,hr,e=>by
  rw[EW]at e
  unfold bnd at e
  cases hf:f x env H with
  | bad=>rw[hf]at e;cases e
  | exc m H1=>rw[hf]at e;cases e
  | ok p H1=>
   rw[hf]at e
   obtain⟨e1,fl⟩:=p
   cases fl with
   | some v=>cases e
   | none=>
    dsimp only at e
    rcases hpost H1 with⟨h1,h2⟩ | h1
    .rw [h1]at e
     exact IG hpost r e1 H1 Ai H2 h2 e
    .rw [h1]at e;cases e
theorem SX.pin(sx:SX U A X Ad env n ns){a:Addr}{o:Obj}:SX (U.pinAt a o) A X Ad env n ns:=⟨sx.cx.pin,sx.ek,sx.loc,sx.cel,sx.inj,sx.og⟩
theorem SX.unpin{a:Addr}{o:Obj}(sx:SX (U.pinAt a o) A X Ad env n ns):SX U A X Ad env n ns:=⟨⟨sx.cx.B,sx.cx.hA,sx.cx.hf,sx.cx.hk,sx.cx.hh,sx.cx.hd,sx.cx.hu,⟨sx.cx.gf.K,sx.cx.gf.T,sx.cx.gf.ext⟩⟩,sx.ek,sx.loc,sx.cel,sx.inj,sx.og⟩
theorem EO.unpin{a:Addr}{o:Obj}(e:EO (U.pinAt a o) X ρ env Γ vs):EO U X ρ env Γ vs:=⟨e.len,e.get⟩
theorem VG{m:ME Fn}{e:Expr}{i:Nat}{nm:Str}{px:Pos}{b:List (MS Fn)}{body:List Stmt}(he:env=Ad)(hset:EM e=true)(hi:Γ[i]? =some nm)(nd:Γ.Nodup)(hk:A2 ns nm=true)
  (h:LE U xc C A Ad env n ns Γ m e) (hb:∀a o,N1 (U.pinAt a o) xc C A Ad env n ns Γ b body):
  SS U xc C A Ad env n ns Γ (.forD i m b) (.For (.Name nm px) e body [] pos):=by
 intro X ρ H s vs Q E sx x eo hp
 have hh:A.handled=none:=sx.cx.hh
 refine wpAny_For ?_ (Dc hset)
 refine h X sx ρ H s vs _ E x eo (hp.bnd (rel:=Aq U) fun v H1 ρ1 v' h1 Bk J l1 x1 r1 AS=> ?_)
 have Cb:=AS
 rcases Vf (v:=v)with e | ⟨j,kvs,rfl,hc,Ba,e⟩
 .rw [e]at Cb;exact Cb.elim
 rw[e]at Cb
 clear e
 replace Cb:Bw U xc A Ad env n ns Γ X ρ1 (bnd (still (EW (fun x env=>Am C b (env.set i (some x))) (stays (.ref j) (.dictP kvs)) (kvs.map fun p=> .w p.1) vs)) (fun r=>(match r.2 with | some _=>Mine.bad | Option.none=>bnd (D6 (.ref j) (.dictW kvs)) fun J=>Mine.ret r)) (H1.set j (.dictP kvs))) Q E { s with heap:=h1,toks:=Bk}:=Cb
 obtain⟨a,o,es,e1,lo,ho,hd,hw,Fp⟩:=FS.pinned x1 hc
 obtain⟨p,ep',rfl⟩:=r1
 rw[e1]at ep';cases ep'
 obtain⟨xs,ep,ex,hdat,hkeys,hpairs,hnd⟩:=hd
 refine wpAny_pyIter_dict (s:={ s with heap:=h1,toks:=Bk}) (knd:=PySem.strKind U.prog U.w) (kvs:=es) (ep:=ep) (Dw lo) ⟨o,xs,ho,ex,hdat,hkeys,hpairs,hnd⟩ ?_
 dsimp only
 have F0:=FS.addEx (a:=h1.objs.size) (o:={ cls:= .type "dict_keyiterator",data:= .fields #[.ref a.1,.int 0 0,.int es.length 0,.int ep 0]}) Fp (fun b o e=>Ds _ e) (Heap.get?_push_size _ rfl) (Nat.le_refl _)
 have hrd:(H1.set j (.dictP kvs))[j]? =some (.dictP kvs):=by rw[List.getElem?_set_self (Er.mp hc).1]
 refine HX (U:=U.pinAt a.1 o) (s0:=s) (Q:=Q) (X:=X) he (LA (U:=U.pinAt a.1 o) hh (kvs:=kvs) (ep:=ep) (es:=es) (i:=j) e1 (if_pos rfl) ⟨ex,xs,hdat,hkeys,hpairs,hnd⟩ hw.keys hw.length) (fun H=>DX H) hi nd hk (hb a.1 o) (m₀:=(kvs.map fun p=>V.w p.1).length+1 - 0)
  ⟨0,X,ρ1,_,_,Bk,vs,{ cls:= .type "dict_keyiterator",data:= .fields #[.ref a.1,.int 0 0,.int es.length 0,.int ep 0]},rfl,rfl,Nat.zero_le _,.refl,sx.pin,BF _,F0,⟨rfl,rfl⟩,hrd,(eo.mono l1).pin,?_⟩
 rw[List.drop_zero]
 have rdy:=IG (f:=fun x env=>Am C b (env.set i (some x))) (post:=stays (.ref j) (.dictP kvs)) (Ready:=fun H=>H[j]? =some (.dictP kvs)) (fun H=>DX H) (kvs.map fun p=>V.w p.1) vs (H1.set j (.dictP kvs))
 unfold bnd still at Cb
 cases q:EW (fun x env=>Am C b (env.set i (some x))) (stays (.ref j) (.dictP kvs)) (kvs.map fun p=>V.w p.1) vs (H1.set j (.dictP kvs))with
 | bad=>rw[q]at Cb;exact Cb.elim
 | exc m H2=>rw[q]at Cb;exact Cb.elim
 | ok r H2=>
  rw[q]at Cb
  obtain⟨vs',fl⟩:=r
  cases fl with
  | some v=>exact Cb.elim
  | none=>
   have hr2:=rdy vs' H2 hrd q
   intro X2 ρ2 h2 tk2 s2 sx2 l2 F2 eo2
   have F3:=FS.unpinned F2 hr2 (Di l2 e1)
   exact Cb X2 ρ2 h2 tk2 s2 sx2.unpin l2 F3 eo2.unpin
theorem Ei:∀(l:Dm) (n:Nat) (acc:List (Str×Addr)),(acc.map (·.2)).Nodup->(∀p ∈ acc,p.2 < n)->((cellsFrom n l acc).map (·.2)).Nodup/\∀p ∈ cellsFrom n l acc,p ∈ acc\/n<=p.2
 | [],n,acc,h,_=>⟨h,fun p hp=> .inl hp⟩
 | (x,k)::r,n,acc,h,hl=>by
  unfold cellsFrom
  by_cases hk:(k==NameKind.cell)=true
  .rw [if_pos hk]
   obtain⟨h1,h2⟩:=Ei r (n+1) ((x,n)::acc) (by
    rw[List.map_cons,List.nodup_cons]
    refine⟨fun hm=> ?_,h⟩
    obtain⟨q,hq,e⟩:=List.mem_map.mp hm
    exact absurd (hl q hq) (by rw[e];exact Nat.lt_irrefl _)) (fun p hp=>by
    rcases List.mem_cons.mp hp with rfl | hp
    .exact Nat.lt_succ_self _
    .exact Nat.lt_succ_of_lt (hl p hp))
   refine⟨h1,fun p hp=> ?_⟩
   rcases h2 p hp with hp | hp
   .rcases List.mem_cons.mp hp with rfl | hp
    .exact .inr (Nat.le_refl _)
    .exact .inl hp
   .exact .inr (Nat.le_of_succ_le hp)
  .rw [if_neg hk]
   exact Ei r n acc h hl
theorem FO{cm:Str->Option Value}{cs:List (Str×Addr)}{cells:List (Addr×Obj)}(h:CellsAre cm cs cells):cells.map (·.1)=cs.map (·.2):=by
 induction h with
 | nil=>rfl
 | cons h r ih=>exact congrArg (List.cons _) ih
theorem DR{cm:Str->Option Value}{cs:List (Str×Addr)}{cells:List (Addr×Obj)}(h:CellsAre cm cs cells){y:Str}{c:Addr}(e:cs.lookup y=some c):∃o,(c,o) ∈ cells/\o.data=.cell (cm y):=by
 induction h with
 | nil=>cases e
 | @cons x d o cs cells h r ih=>
  rw[List.lookup_cons]at e
  cases q:y==x with
  | true=>
   rw[q]at e;cases e
   obtain rfl:=eq_of_beq q
   exact⟨o,.head _,h⟩
  | false=>
   rw[q]at e
   exact(ih e).elim fun o' h=>⟨o',.tail _ h.1,h.2⟩
theorem D4:∀{cs:List (Str×Addr)},(cs.map (·.2)).Nodup->∀{y z:Str} {c:Addr},cs.lookup y=some c->cs.lookup z=some c->y=z
 | [],_,_,_,_,e,_=>by cases e
 | (x,d)::cs,nd,y,z,c,e1,e2=>by
  rw[List.map_cons,List.nodup_cons]at nd
  rw[List.lookup_cons]at e1 e2
  have mem:∀{w:Str},cs.lookup w=some d->False:=fun e=>nd.1 (List.mem_map.mpr ⟨(_,d),lookup_mem' e,rfl⟩)
  cases q1:y==x<;>cases q2:z==x<;>rw[q1]at e1<;>rw[q2]at e2<;>simp only at e1 e2
  .exact D4 nd.2 e1 e2
  .cases e2;exact(mem e1).elim
  .cases e1;exact(mem e2).elim
  .rw [eq_of_beq q1,eq_of_beq q2]
where
 lookup_mem':∀{l:List (Str×Addr)} {x:Str} {a:Addr},l.lookup x=some a->(x,a) ∈ l
 | [],_,_,h=>by cases h
 | (y,j)::r,x,a,h=>by
  rw[List.lookup_cons]at h
  cases q:x==y with
  | true=>rw[q]at h;cases h;rw[beq_iff_eq.mp q];exact .head _
  | false=>rw[q]at h;exact .tail _ (lookup_mem' h)
theorem CO:∀{a b:List (Str×Addr)} {x:Str},a.map (·.1)=b.map (·.1)->(a.lookup x).isSome=true->(b.lookup x).isSome=true
 | [],[],_,_,h=>h
 | [],_::_,_,e,_=>by simp at e
 | _::_,[],_,e,_=>by simp at e
 | (y,c)::a,(z,d)::b,x,e,h=>by
  simp only [List.map_cons,List.cons.injEq]at e
  obtain⟨rfl,e⟩:=e
  rw[List.lookup_cons]at h ⊢
  cases q:x==y with
  | true=>rfl
  | false=>rw[q]at h;exact CO e h
structure Qr(scope:Scope)(binds:List Str):Prop where
 co:scope.isCoroutine=false
 gen:scope.isGenerator=false
 kind:scope.kind=.function
 free:∀y k,scope.names.lookup y=some k->k≠.free
 cell:∀y,scope.names.lookup y=some .cell->((cellsFrom 0 scope.names []).lookup y).isSome=true
 par:∀y ∈ binds,scope.names.lookup y=some .local\/scope.names.lookup y=some .cell
 nd:((cellsFrom 0 scope.names []).map (·.1)).Nodup
 pnd:binds.Nodup
theorem DV{kindOf:Str->Option NameKind}:∀{binds:List (Str×Value)} {m:Str->Option Value} {x:Str},(binds.map (·.1)).Nodup->kindOf x=some .local->bindL kindOf binds m x=match binds.lookup x with | some v=>some v | none=>m x
 | [],_,_,_,_=>rfl
 | (y,v)::r,m,x,nd,hk=>by
  rw[List.map_cons,List.nodup_cons]at nd
  unfold bindL
  rw[DV nd.2 hk,List.lookup_cons]
  cases q:x==y with
  | true=>
   obtain rfl:=eq_of_beq q
   have:r.lookup x=none:=by
    cases e:r.lookup x with
    | none=>rfl
    | some w=>exact absurd (List.mem_map.mpr ⟨(x,w),lookup_memV e,rfl⟩) nd.1
   rw[this,if_pos hk];simp
  | false=>
   have hxy:x≠y:=by simpa using q
   cases r.lookup x with
   | some w=>rfl
   | none=>
    dsimp only
    split
    .exact if_neg hxy
    .rfl
where
 lookup_memV:∀{l:List (Str×Value)} {x:Str} {a:Value},l.lookup x=some a->(x,a) ∈ l
 | [],_,_,h=>by cases h
 | (y,j)::r,x,a,h=>by
  rw[List.lookup_cons]at h
  cases q:x==y with
  | true=>rw[q]at h;cases h;rw[beq_iff_eq.mp q];exact .head _
  | false=>rw[q]at h;exact .tail _ (lookup_memV h)
theorem Hj{kindOf:Str->Option NameKind}:∀{binds:List (Str×Value)} {m:Str->Option Value} {x:Str},(binds.map (·.1)).Nodup->kindOf x≠some .local->bindC kindOf binds m x=match binds.lookup x with | some v=>some v | none=>m x
 | [],_,_,_,_=>rfl
 | (y,v)::r,m,x,nd,hk=>by
  rw[List.map_cons,List.nodup_cons]at nd
  unfold bindC
  rw[Hj nd.2 hk,List.lookup_cons]
  cases q:x==y with
  | true=>
   obtain rfl:=eq_of_beq q
   have:r.lookup x=none:=by
    cases e:r.lookup x with
    | none=>rfl
    | some w=>exact absurd (List.mem_map.mpr ⟨(x,w),DV.lookup_memV e,rfl⟩) nd.1
   rw[this,if_neg hk];simp
  | false=>
   have hxy:x≠y:=by simpa using q
   cases r.lookup x with
   | some w=>rfl
   | none=>
    dsimp only
    split
    .rfl
    .exact if_neg hxy
section
variable{name qual:Str}{params:Arguments}{body:List Stmt}{scope:Scope}{dV kV doc pm cdv ct:Value}{an:Option Addr}{fo:Obj}{f:Addr}{args:Args}{binds:List (Str×Value)}{R:Result->Shared->Prop}
theorem GF.nolimit(gf:GF U X.G):X.G.NoLimit:=gf.T.nolimit
theorem Wh{k:Nat}(cx:Cx U A X Ad n)(hr:DK A n (k+1))(x:AL U X ρ H s.heap)(sc:Qr scope (binds.map (·.1)))
  (ho:s.heap.get? f=some fo) (hd:fo.data=.func (fnX name qual params body scope [] dV kV doc pm an cdv ct)) (hcd:s.heap.CodeRec cdv qual)
  (hbind:BindsTo s (fnX name qual params body scope [] dV kV doc pm an cdv ct) args binds)
  (h:∀X' h₁ tk Ai,Ai=envOfC qual scope X'.L f cdv->X'.ex=X.px->X'.base=X.base->X'.l=Ai::X.l->DK (A.deeper Ai) n k->SX U (A.deeper Ai) X' Ai Ai n scope.names->AL U X' ρ H h₁->(∀x v,binds.lookup x=some v->GL X' Ai x v)->
   wpAny (model U.prog U.w) (A.deeper Ai) (execs body Ai)
    (fun fl s'=>∃X'' ex2 ρ' H' v,X''.G=X'.G/\(X.withEx ex2).px.Sublist X''.ex/\AL U X'' ρ' H' s'.heap/\v=(match fl with | .ret v=>v | _=> .none)/\(AL U (X.withEx ex2) ρ' H' s'.heap->R (.ok (.ret v)) s'))
    (fun e s'=>∃X'' ρ' H' msg e',e=.ref e'/\CH X' X''/\Sp U xc X'' msg ρ' H' e' s'.heap/\∀h'',Sp U xc X msg ρ' H' e' h''->R (.error (.ref e')) { s' with heap:=h''})
    { s with heap:=h₁,toks:=tk}):
  codeAny (model U.prog U.w) A (.call (.ref f) args) R s:=by
 obtain⟨A₀,outer,B,hl⟩:=cx.B
 have hA:=cx.hA
 obtain⟨F,ps,p,N,D,lo⟩:=x
 have hA':=hA
 rw[hl]at hA'
 have names0:∀k,(cellsFrom k scope.names []).map (·.1)=(cellsFrom 0 scope.names []).map (·.1):=fun k=>cellsFrom_names scope.names k 0 [] [] rfl
 have cell':∀k y,scope.names.lookup y=some .cell->((cellsFrom k scope.names []).lookup y).isSome=true:=fun k y hy=>CO (names0 k).symm (sc.cell y hy)
 refine callX_cells (news:=X.px++ps.flatten) B F N cx.gf.nolimit hA' cx.hf cx.hk ho hd hcd (by have:=cx.hd;exact Nat.lt_of_le_of_lt (Nat.le_trans (Nat.le_add_right _ _) (Nat.le_add_right _ _)) ‹_›) hbind (fun k y hy=> ?_) sc.nd (fun g L' h₁ tk cells FG F' N' Y BG st lt=> ?_) sc.co sc.gen sc.kind
 .rcases sc.par y.1 (List.mem_map_of_mem hy)with e | e
  .exact .inl e
  .exact .inr ⟨e,cell' k _ e⟩
 .generalize B8:envOfC qual scope L' f cdv=Ai at *
  have addrs:=FO Y
  have ca:=Ei scope.names (L'+1) [] List.nodup_nil (by intro p hp;cases hp)
  have cnd:(cells.map (·.1)).Nodup:=by rw[addrs];exact ca.1
  have cabove:∀q ∈ cells,L' < q.1:=fun q hq=>by
   have:q.1 ∈ cells.map (·.1):=List.mem_map_of_mem hq
   rw[addrs]at this
   obtain⟨r,hr,e⟩:=List.mem_map.mp this
   rcases ca.2 r hr with hr | hr
   .cases hr
   .rw [<-e];exact hr
  let X':Fx:={ G:=g,L:=L',m:=bindL Ai.kindOf binds fun J=>none,own:=cells,ex:=X.px,base:=X.base,l:=Ai::X.l}
  have hcells:Ai.cells=cellsFrom (L'+1) scope.names []:=by rw[<-B8];rfl
  have hnames:Ai.scope.names=scope.names:=by rw[<-B8];rfl
  have gf':GF U g:=cx.gf.keeps st
  have hdp:(A.deeper Ai).depth=A.depth+1:=rfl
  have hun:(A.deeper Ai).units=A.units+3:=rfl
  have cx':Cx U (A.deeper Ai) X' Ai n:=by
   refine⟨⟨A,X.l,?_,rfl⟩,PySem.Around.frames_deeper hA,by rw[<-B8];rfl,by rw[<-B8];exact sc.kind,cx.hh,?_,?_,gf'⟩
   .show Below A X.base X.l g
    rw[hl];exact BG
   .rw [hdp];have:=hr.1;exact gT ‹_›
   .rw [hun];have:=hr.2;exact gR ‹_›
  have rm:DK (A.deeper Ai) n k:=by
   constructor
   .rw [hdp];have:=hr.1;exact dD ‹_›
   .rw [hun];have:=hr.2;exact dG ‹_›
  have ek':AJ X' Ai Ai scope.names:=by
   refine⟨hnames,by rw[<-B8];exact sc.kind,by rw[<-B8];rfl,by rw[<-B8];rfl,by rw[<-B8];rfl,fun y hy=> ?_⟩
   rw[hcells]
   unfold PySem.Env.kindOf at hy
   rw[hnames]at hy
   rcases hy with hy | hy
   .exact cell' _ y hy
   .exact absurd rfl (sc.free y _ hy)
  have sx':SX U (A.deeper Ai) X' Ai Ai n scope.names:=by
   refine⟨cx',ek',by rw[<-B8];rfl,fun y c hy=> ?_,fun y z c hy hz=> ?_,fun e he=> ?_⟩
   .rw [hcells]at hy
    obtain⟨o,h1,h2⟩:=DR Y hy
    exact⟨o,_,h1,h2⟩
   .rw [hcells]at hy hz
    exact D4 ca.1 hy hz
   .have he':Ai::X.l=[e]:=he
    rw[hl]at he';cases he'
  have x':AL U X' ρ H h₁:=by
   refine⟨F',ps,p,?_,?_,lo⟩
   .have:X'.px++ps.flatten=cells++(X.px++ps.flatten):=by simp[X',Fx.px]
    rw[this];exact N'
   .have:X'.px++ps.flatten=cells++(X.px++ps.flatten):=by simp[X',Fx.px]
    rw[this]
    refine Gw D cnd fun p hp q hq=> ?_
    exact Nat.lt_trans (lt q hq) (cabove p hp)
  have ld:∀x v,binds.lookup x=some v->GL X' Ai x v:=fun y v hy=>by
   have hm:y ∈ binds.map (·.1):=List.mem_map.mpr ⟨(y,v),DV.lookup_memV hy,rfl⟩
   have hk:Ai.kindOf y=scope.names.lookup y:=by unfold PySem.Env.kindOf;rw[hnames]
   rcases sc.par y hm with e | e
   .refine .inl ⟨hk.trans e,by rw[<-B8];rfl,?_⟩
    show bindL Ai.kindOf binds (fun J=>none) y=some v
    rw[DV sc.pnd (hk.trans e),hy]
   .have hs:=cell' (L'+1) y e
    obtain⟨c,hc⟩:=Option.isSome_iff_exists.mp hs
    obtain⟨o,h1,h2⟩:=DR Y hc
    refine .inr (.inl ⟨.inl (hk.trans e),c,o,by rw[hcells];exact hc,B0 _ h1,?_⟩)
    rw[h2,Hj sc.pnd (by rw[hk,e];decide),hy]
  refine wpAny_mono (h X' h₁ tk Ai B8.symm rfl rfl rfl rm sx' x' ld) (fun fl s' hq=> ?_) (fun e s' hq=> ?_)
  .obtain ⟨X'',ex2,ρ',H',v,hG,hex,F2,rfl,k⟩:=hq
   obtain⟨Fr2,ps2,p2,N2,D2,lo2⟩:=F2
   have hG:X''.G=g:=hG
   rw[hG]at Fr2 N2
   refine leaveK_ (L':=X''.L) (m':=X''.m) Fr2 N2 fun FX NX=>k ?_
   have sub:((X.withEx ex2).px++ps2.flatten).Sublist (X''.px++ps2.flatten):=by
    refine List.Sublist.append ?_ (List.Sublist.refl _)
    exact hex.trans (List.sublist_append_right _ _)
   refine⟨FX,ps2,p2,DE NX fun q hq=>sub.subset hq,?_,lo2⟩
   unfold By at D2 ⊢
   exact D2.sublist (sub.map _)
  .obtain ⟨X'',ρ',H',msg,e',rfl,sm,E2,k⟩:=hq
   obtain⟨ps2,h₂,p2,D2,lo2,st2,Fr2,u2⟩:=E2
   have hG:X''.G=g:=sm.G
   have hex:X''.ex=X.px:=sm.ex
   have hbase:X''.base=X.base:=sm.base
   have hl2:X''.l=Ai::X.l:=sm.l
   have hL2:X''.L=L':=sm.L
   rw[hbase,hl2,hL2]at st2
   rw[hG]at Fr2
   refine IB (env:=Ai) (outer:=X.l) (PySem.Around.frames_deeper hA) (by rw[<-B8];rfl) st2 X.L fun h'' k1 k2=>k h'' ?_
   have sub:(X.px++ps2.flatten).Sublist (X''.px++ps2.flatten):=by
    refine List.Sublist.append ?_ (List.Sublist.refl _)
    unfold Fx.px at hex ⊢
    rw[hex]
    exact List.sublist_append_right _ _
   refine⟨ps2,g,p2,?_,lo2,k1.sub fun q hq=>sub.subset hq,FG,((Heap.UpToSlots.of_keeps Fr2.keep).trans u2).trans k2⟩
   unfold By at D2 ⊢
   exact D2.sublist (sub.map _)
end
noncomputable abbrev B9:List Value:=[.type "Exception",.type "BaseException",.type "object"]
section
variable{prog:Program}{w:World}{g:Array GenState}{d:Drawn}{t:Nat}{os:OsState}{K:Frag}
variable{nm q:Str}{C D N:Addr}{bs:List Value}{hdct:Bool}{sn:List Str}{sub:List Value}{ab:Bool}{col:Option Bool}{dd:Option Addr}{k0 k1 k2 k3 k5:Option Value}{B initId:String}
theorem JA(F:ExcBaseFacts "Exception" "Exception.__new__" initId B9)(X:K.In h)(T:OwnTail h B9 (.ref D::B9)){fI:Addr}{v:Value}{Q:PySem.Fin->Shared->Prop}
  (hC:h.get? C=some (excClassObj nm q C N bs (.ref D::B9) hdct sn sub ab col dd k0 k1 k2 k3 k5 "Exception.__new__"))
  (hi:findIn K (.ref C) "__init__"=some (some (.ref fI))) (hf:isFn K (.ref fI)=true)
  (hq:∀h2:Heap,h2=(h.push { cls:= .type "tuple",data:= .seq [v].toArray}).push { cls:= .ref C,data:= .fields #[.ref h.objs.size,.none,.none,.none,.bool false,.none]}->
   wpAny (model prog w) A (call (.ref fI) [.ref (h.objs.size+1),v]) (fun r s'=>r=.none/\Q (.done (.ret (.ref (h.objs.size+1)))) s') E ⟨h2,g,d,t,os⟩):
  wpAny (model prog w) A (Builtin.«type.__call__» ⟨[.ref C,v],[]⟩) Q E ⟨h,g,d,t,os⟩:=by
 repeat (first | with_reducible refine wpAny_loadPart_at hC ?_ | with_reducible refine wpAny_madeBy_exc hC ?_ | wp_step)
 refine codeAny_call_builtin_code (Code.quiet_builtin _ F.quiet) (wpAny_check_new_subT F T hC ?_)
 refine codeAny_exc_new_subT F T hC ?_ (by rw[sizeLine_eq];show 1<=_;decide)
 show wpAny _ _ _ _ _ _
 generalize hh2:(h.push { cls:= .type "tuple",data:= .seq [v].toArray}).push { cls:= .ref C,data:= .fields #[.ref h.objs.size,.none,.none,.none,.bool false,.none]}=h2
 have hC₁:h2.get? C=some (excClassObj nm q C N bs (.ref D::B9) hdct sn sub ab col dd k0 k1 k2 k3 k5 "Exception.__new__"):=by
  rw[<-hh2];exact Ds _ (Ds _ hC)
 have hget:h2.get? (h.objs.size+1)=some { cls:= .ref C,data:= .fields #[.ref h.objs.size,.none,.none,.none,.bool false,.none]}:=by
  rw[<-hh2];exact Heap.get?_push_at (by simp only [Heap.size_push]) rfl
 have X2:K.In h2:=by rw[<-hh2];exact X.keeps fun b o e=>Ds _ (Ds _ e)
 have hcC:(Value.ref C::Value.ref D::B9).contains (.ref C)=true:=by simp
 unfold isInstance
 repeat (first | with_reducible refine wpAny_loadPart_at hget ?_ | (with_reducible refine wpAny_isSubtype_exc hC₁ ?_;rw[hcC]) | wp_step)
 show wpAny _ _ (typeLookup (.ref C) _) _ _ _
 refine(looks_findIn X2 hi).here (s:=⟨h2,g,d,t,os⟩) ?_
 refine wpAny_holding (As ((bind_fn X2 _ (beq_iff_eq.mp hf)).here (s:=⟨h2,g,d,t,os⟩) ?_))
 refine As (wpAny_mono (hq h2 hh2.symm) (fun r s' hr=> ?_) fun J J e=>e)
 obtain⟨rfl,hr⟩:=hr
 refine BE ?_
 dsimp only
 rw[if_neg (by decide)]
 exact BE hr
theorem Jq(F:ExcBaseFacts "Exception" "Exception.__new__" initId B9)(X:K.In h)(T:OwnTail h B9 (.ref D::B9)){fI:Addr}{v:Value}{Q:Value->Shared->Prop}
  (hC:h.get? C=some (excClassObj nm q C N bs (.ref D::B9) hdct sn sub ab col dd k0 k1 k2 k3 k5 "Exception.__new__"))
  (hi:findIn K (.ref C) "__init__"=some (some (.ref fI))) (hf:isFn K (.ref fI)=true)
  (hq:∀h2:Heap,h2=(h.push { cls:= .type "tuple",data:= .seq [v].toArray}).push { cls:= .ref C,data:= .fields #[.ref h.objs.size,.none,.none,.none,.bool false,.none]}->
   wpAny (model prog w) (A.under (.builtin "type.__call__" ⟨[.ref C,v],[]⟩)) (call (.ref fI) [.ref (h.objs.size+1),v]) (fun r s'=>r=.none/\Q (.ref (h.objs.size+1)) s') E ⟨h2,g,d,t,os⟩):
  wpAny (model prog w) A (call (.ref C) [v]) Q E ⟨h,g,d,t,os⟩:=by
 have f1:=tc_lookup
 have f2:=tc_bind (.ref C)
 have hT:(⟨h,g,d,t,os⟩:Shared).TypeIs (.ref C) "type":=⟨_,hC,rfl⟩
 refine wpAny_call (codeAny_of_tree ?_)
 show wpAny _ _ (callAny (.ref C) _) _ _ _
 repeat (any_goals (first | assumption | with_reducible refine wpAny_loadPart_at hC ?_ | wp_step))
 refine⟨rfl,?_⟩
 refine codeAny_call_builtin_at (Code.quiet_builtin _ (by decide+kernel)) entry_typeCall (wpAny_check_type_call_sub hC (JA (T:=T) F X hC hi hf fun h2 e2=> ?_))
 exact hq h2 e2
end
section
variable{prog:Program}{w:World}{K:Frag}{C D e:Addr}{cd:ClassData}{vs:Array Value}
theorem Vq{name:Str}{v:Value}{Q:Unit->Shared->Prop}(X:K.In s.heap)(he:s.heap.get? e=some { cls:= .ref C,data:= .fields vs})(hc:clsIn K C=some cd)(hm:cd.mro=.ref C:: .ref D::B9)(hdct:cd.hasDict=true)
  (hs:findIn K (.ref C) "__setattr__"=some (some (.builtin "object.__setattr__"))) (ht:takerIn K C name=some none)
  (h:∀h' tk,h'.get? e=some { cls:= .ref C,dict:=some s.heap.objs.size,data:= .fields vs}->(∃t n,h'.get? s.heap.objs.size=some (W.dictOf [⟨PyData.keyHash w.params name,.str name t,v⟩] n))->
   (∀b o,b≠e->s.heap.get? b=some o->h'.get? b=some o)->Q () { s with heap:=h',toks:=tk}):
  wpAny (model prog w) A (setAttr (.ref e) name v) Q E s:=by
 have I:InstAt s.heap e { cls:= .ref C,data:= .fields vs} C none:=⟨he,rfl,rfl,trivial⟩
 refine set_plain X I hs ?_
 have SF:=PySem.F.store_object
 have sub:Looks (model prog w) s.heap (isInstance (.ref e) (.type "object")) true:=I.type.andThen (looks_mroIn X (by unfold mroIn;rw[hc,Option.bind_some,hm];rfl))
 refine codeAny_call_builtin SF.slot.plain SF.entry (@check_slot (model prog w) _ _ _ "object.__setattr__" "object" "__setattr__" (.ref e) [.str name s.toks,v] [] _ SF.kind SF.split sub (SF.args (.ref e) (.str name s.toks) v) ?_)
 obtain⟨attr,ha,hr⟩:=Option.bind_eq_some_iff.mp ht
 have hmr:Looks (model prog w) s.heap (mroOf (.ref C)) cd.mro:=(looks_clsIn X hc).andThen .now
 have L3:Looks (model prog w) s.heap (Builtin.ObjectAttr.storeTaker? attr) none:=by
  cases attr with
  | none=>exact .now
  | some a=>
   obtain⟨b,hb,hb2⟩:=Option.map_eq_some_iff.mp hr
   refine(looks_takesIn X hb).andThen ?_
   cases b with
   | true=>cases hb2
   | false=>exact .now
 rw[osa_eq,refuse_eq]
 refine As (As (I.type.here (s:={ s with toks:=s.toks+1}) (As (hmr.here (s:={ s with toks:=s.toks+1}) ?_))))
 rw[hm,refuseLoop_ref,refuseLoop_ref,PySem.F.store_Exception.passes]
 refine BE (As (I.type.here (s:={ s with toks:=s.toks+1}) (As ((looks_findIn X ha).here (s:={ s with toks:=s.toks+1}) (As (L3.here (s:={ s with toks:=s.toks+1}) ?_))))))
 dsimp only
 have Ef:=Heap.lt_size he
 have JK:e≠s.heap.objs.size:=Nat.ne_of_lt Ef
 refine As (BE (As (As (wpAny_loadPart (s:={ s with toks:=s.toks+1}) he (As ((looks_clsIn X hc).here (s:={ s with toks:=s.toks+1}) ?_))))))
 rw[hdct,if_neg (by decide)]
 show wpAny _ _ (PySem.alloc { cls:= .type "dict",data:= .dict #[]} >>= fun d=>(update e fun o=>{ cls:=o.cls,dict:=some d,data:=o.data,slots:=o.slots}) >>= fun J=>dictMade (.ref C) e d) _ _ _
 refine As (wpAny_alloc (As (wpAny_update (Ds _ he) ?_)))
 dsimp only
 generalize hh1:(s.heap.push { cls:= .type "dict",data:= .dict #[]}).update e (fun o=>{ cls:=o.cls,dict:=some s.heap.objs.size,data:=o.data,slots:=o.slots})=h1
 have hd1:h1.get? s.heap.objs.size=some (W.dictOf [] 0):=by
  rw[<-hh1]
  exact(Heap.get?_update_ne _ _ _ _ (Ne.symm JK)).trans (Heap.get?_push_size _ rfl)
 have he1:h1.get? e=some { cls:= .ref C,dict:=some s.heap.objs.size,data:= .fields vs}:=by
  rw[<-hh1]
  exact Heap.get?_update_self _ (Ds _ he) rfl
 have keep:∀b o,b≠e->s.heap.get? b=some o->h1.get? b=some o:=fun b o hb q=>by
  rw[<-hh1]
  exact(Heap.get?_update_ne _ _ _ _ hb).trans (Ds _ q)
 refine BE (As (BE (As ?_)))
 unfold nsSet
 refine As (As (wpAny_askSetting (BE (As (wpAny_mkText (As (wpAny_loadPart hd1 ?_)))))))
 show wpAny _ _ (if aRefKeyMayBeTheName name #[]=true then _ else updatePart s.heap.objs.size (some (.str name 0)) (Obj.putName name (PyData.keyHash w.params name) (.str name (s.toks+1)) v)) _ _ _
 rw[aRefKeyMayBeTheName_at,if_neg (by simp)]
 refine wpAny_updatePart hd1 ?_
 have hd2:(h1.update s.heap.objs.size (Obj.putName name (PyData.keyHash w.params name) (.str name (s.toks+1)) v)).get? s.heap.objs.size=some (W.dictOf (putL name (PyData.keyHash w.params name) (.str name (s.toks+1)) v []) (putN name [] 0)):=by
  have:=Heap.get?_update_self (Obj.putName name (PyData.keyHash w.params name) (.str name (s.toks+1)) v) hd1 (by rw[putName_dict];rfl)
  rw[putName_dict]at this
  exact this
 refine As (wpAny_lookBehind (s:={ s with heap:=h1.update s.heap.objs.size (Obj.putName name (PyData.keyHash w.params name) (.str name (s.toks+1)) v),toks:=s.toks+1+1}) hd2 (by
  refine pastItsLine_dict ?_
  rw[sizeLine_eq]
  show(putL name (PyData.keyHash w.params name) (.str name (s.toks+1)) v []).toArray.size<=_
  unfold putL
  simp) ?_)
 refine BE (h _ _ ?_ ⟨_,_,hd2⟩ fun b o hb q=> ?_)
 .exact (Heap.get?_update_ne _ _ _ _ JK).trans he1
 .exact (Heap.get?_update_ne _ _ _ _ (Nat.ne_of_lt (Heap.lt_size q))).trans (keep b o hb q)
end
section
variable{prog:Program}{w:World}{K:Frag}{C D e:Addr}{cd:ClassData}{ox:Obj}{es:List DictEntry}
theorem U9{name:Str}{v:Value}{ex:Bool}{attr:Option Value}{Q:Value->Shared->Prop}(X:K.In s.heap)(I:InstAt s.heap e ox C (some (W.dictOf es n)))(hc:clsIn K C=some cd)(hm:cd.mro=.ref C:: .ref D::B9)
  (hga:findIn K (.ref C) "__getattribute__"=some (some (.builtin "BaseException.__getattribute__"))) (hgt:findIn K (.ref C) "__getattr__"=some none) (hh:hasDictIn K C=true) (ha:findIn K (.ref C) name=some attr) (hn:noGet K attr=true) (hl:getL name es=some (some v)) (hv:handedIn v=true)
  (h:Q v { s with toks:=s.toks+1}):wpAny (model prog w) A (getAttr (.ref e) name ex) Q E s:=by
 obtain⟨hp,g,d,t,os⟩:=s
 have GA:=PySem.F.attr_Exception.ga
 have f3:=GA.bind (.ref e)
 have hf:findObj K C (some (W.dictOf es n)) name=some (.value v):=findObj_own hh ha hn hl
 have hk:builtinKind "BaseException.__getattribute__"=some .slot:=by decide+kernel
 have hsplit:splitId "BaseException.__getattribute__"=some ("BaseException","__getattribute__"):=by decide+kernel
 have sub:Looks (model prog w) hp (isInstance (.ref e) (.type "BaseException")) true:=I.type.andThen (looks_mroIn X (by unfold mroIn;rw[hc,Option.bind_some,hm];rfl))
 have hx2:(Value.builtin "BaseException.__getattribute__"==Value.builtin "object.__getattribute__")=false:=by decide+kernel
 have hx0:(ex&&onTheHeap (Value.builtin "BaseException.__getattribute__"))=false:=by cases ex<;>rfl
 unfold getAttr getAttrBy
 refine As (wpAny_mkText (wpAny_holding (As (I.type.at (As ((looks_findIn X hga).at ?_))))))
 dsimp only
 rw[hx2,Bool.and_false,if_neg (by decide)]
 unfold getAttrByItsOwn hookBefore
 rw[if_pos (show onTheHeap (.ref C)=true from rfl)]
 refine As ((looks_findIn X hgt).at ?_)
 unfold callGetattribute
 rw[hx0,if_neg (by decide)]
 unfold boundAndCalled
 refine As (wpAny_attempt (wpAny_holding (As (wpAny_of_eq f3 (wpAny_call (codeAny_call_builtin GA.plain PySem.F.entry_bexc_ga (@check_slot (model prog w) _ _ _ "BaseException.__getattribute__" "BaseException" "__getattribute__" (.ref e) [.str name t] [] _ hk hsplit sub (PySem.F.args_bexc_ga (.ref e) (.str name t)) ?_)))))))
 have L0:=I.type (M:=model prog w)
 have L1:=looks_find (M:=model prog w) X I hf
 unfold Builtin.«object.__getattribute__»
 refine As (BE (As (BE (As (L0.at (As (L1.at ?_)))))))
 refine BE ?_
 show wpAny _ _ (handedOut v) _ _ _
 rw[handedOut_of hv];exact BE h
end
inductive S8(K:Frag)(C D:Addr):Prop
 | mk (nm q N bs hdct sn sub ab col dd k0 k1 k2 k3 k5:_) (h0:K.lookup C=some (excClassObj nm q C N bs (.ref D::B9) hdct sn sub ab col dd k0 k1 k2 k3 k5 "Exception.__new__")):S8 K C D
inductive Nz(K:Frag)(fI:Addr):Prop
 | mk (oc od osl name qual params scope dV kV doc pm an cdv ct p1 p2 p3 p4:_) (h0:K.lookup fI=some ⟨oc,od,.func (fnX name qual params [.Assign [.Attribute (.Name "self" p1) "message" p2] (.Name "message" p3) p4] scope [] dV kV doc pm an cdv ct),osl⟩) (h1:codeIn K cdv qual=true) (h2:Qr scope ["self","message"]) (h3:DZ scope.names "self"=true) (h4:DZ scope.names "message"=true) (h5:∀s a b,K.In s.heap->BindsTo s (fnX name qual params [.Assign [.Attribute (.Name "self" p1) "message" p2] (.Name "message" p3) p4] scope [] dV kV doc pm an cdv ct) ⟨[a,b],[]⟩ [("self",a),("message",b)]):Nz K fI
structure UE(U:Un)(C D fI:Addr)(cd:ClassData):Prop where
 name:nsIn U.K mainGlobals "Refusal"=some (some (.ref C))
 keep:keepIn U.K (.ref C)=true
 obj:S8 U.K C D
 tail:tailIn U.K B9 (.ref D::B9)=true
 init:findIn U.K (.ref C) "__init__"=some (some (.ref fI))
 isfn:isFn U.K (.ref fI)=true
 fn:Nz U.K fI
 cls:clsIn U.K C=some cd
 mro:cd.mro=.ref C:: .ref D::B9
 hd:cd.hasDict=true
 seta:findIn U.K (.ref C) "__setattr__"=some (some (.builtin "object.__setattr__"))
 taker:takerIn U.K C "message"=some none
 hga:findIn U.K (.ref C) "__getattribute__"=some (some (.builtin "BaseException.__getattribute__"))
 hgt:findIn U.K (.ref C) "__getattr__"=some none
 hmsg:findIn U.K (.ref C) "message"=some none
section
variable{Cc:Ja Fn}{C D fI:Addr}{cd:ClassData}
theorem Qh{X:Fx}{ρ:A9}{H:MH}{h h':Heap}{a:Addr}{o o':Obj}{pre post:List (Addr×Obj)}(x:AL U X ρ H h)(e:X.ex=pre++(a,o)::post)(hs:∀b o,b≠a->h.get? b=some o->h'.get? b=some o)(ho:h'.get? a=some o'):
  AL U (X.withEx (pre++(a,o')::post)) ρ H h':=by
 obtain⟨F,ps,p,N,D,lo⟩:=x
 have w:X.px++ps.flatten=(X.own++pre)++(a,o)::(post++ps.flatten):=by simp[Fx.px,e]
 rw[w]at N D
 obtain⟨h1,h2⟩:(∀q ∈ X.own++pre,q.1≠a)/\∀q ∈ post++ps.flatten,q.1≠a:=by
  unfold By at D
  rw[List.map_append,List.map_cons]at D
  have d2:=(List.nodup_append.mp D)
  refine⟨fun q hq=>d2.2.2 q.1 (List.mem_map_of_mem hq) a (.head _),fun q hq e=> ?_⟩
  have:=(List.nodup_cons.mp d2.2.1).1
  exact this (e▸List.mem_map_of_mem (f:=(·.1)) hq)
 have z:=N (a,o) (Da _ (.head _))
 have hL:X.L≠a:=Ne.symm z.2.1
 have w2:(X.withEx (pre++(a,o')::post)).px++ps.flatten=(X.own++pre)++(a,o')::(post++ps.flatten):=by simp[Fx.px]
 refine⟨⟨F.ns.extBut (fun b o hb q=>hs b o hb q) hL,fun b o q=>hs b o (fun q2=> ?_) (F.keep b o q),F.above⟩,ps,p,?_,?_,lo⟩
 .subst q2;have:=z.2.2;dsimp only at q;rw[q]at this;cases this
 .rw [w2]
  intro q hq
  rcases List.mem_append.mp hq with hq | hq
  .have y:=N q (B0 _ hq)
   exact⟨hs _ _ (h1 q hq) y.1,y.2⟩
  .rcases List.mem_cons.mp hq with rfl | hq
   .exact ⟨ho,z.2⟩
   .have y:=N q (Da _ (.tail _ hq))
    exact⟨hs _ _ (h2 q hq) y.1,y.2⟩
 .rw [w2]
  exact Hp (o':=o') D
theorem Nf{Q:Flow->Shared->Prop}{nm q:Str}{N:Addr}{bs:List Value}{hdct:Bool}{sn:List Str}{sub:List Value}{ab:Bool}{col:Option Bool}{dd:Option Addr}{k0 k1 k2 k3 k5:Option Value}{M:Model}{x:Sem Value}(hh:A.handled=none)
  (h:wpAny M A x (fun v s₁=>∃e t d,v=.ref e/\s₁.heap.get? C=some (excClassObj nm q C N bs (.ref D::B9) hdct sn sub ab col dd k0 k1 k2 k3 k5 "Exception.__new__")/\
   s₁.heap.get? e=some { cls:= .ref C,dict:=some d,data:= .fields #[.ref t,.none,.none,.none,.bool false,.none]}/\E (.ref e) s₁) E s):
  wpAny M A (raiseStmt env (some x) none) Q E s:=by
 have hcB:(Value.ref C::Value.ref D::B9).contains (.type "BaseException")=true:=rfl
 unfold raiseStmt
 refine As (wpAny_mono h (fun v s₁ h₁=> ?_) fun J J x=>x)
 obtain⟨e,t,d,rfl,hC,he,hE⟩:=h₁
 obtain⟨hp,g,dr,tk,os⟩:=s₁
 repeat (first | with_reducible refine wpAny_loadPart_at he ?_ | with_reducible refine wpAny_loadPart_at hC ?_ | (with_reducible refine wpAny_isSubtype_exc hC ?_;rw[hcB]) | wp_step)
 exact wpAny_raiseNew_none hh hE
end
section
variable{Cc:Ja Fn}{cpos:Pos}{C D fI:Addr}{cd:ClassData}
theorem TA{m:Nat}{e d:Addr}{t:Value}{k:Int}{u v:Tok}{j:Nat}(cx:Cx U A X Ad n)
  (x:AL U (X.withEx ((e,{ cls:= .ref C,dict:=some d,data:= .fields #[t,.none,.none,.none,.bool false,.none]})::X.ex)) ρ H h')
  (hd:h'.get? d=some (W.dictOf [⟨k,.str "message" u,.str (wd m) v⟩] j)) (hde:d≠e) (hfr:∀env ∈ X.l,∀b,env.frame=some b->b≠d):
  Sp U (.ref C) X m ρ H e h':=by
 obtain⟨F,ps,p,N,D,lo⟩:=x
 have w:(X.withEx ((e,{ cls:= .ref C,dict:=some d,data:= .fields #[t,.none,.none,.none,.bool false,.none]})::X.ex)).px++ps.flatten=X.own++(e,{ cls:= .ref C,dict:=some d,data:= .fields #[t,.none,.none,.none,.bool false,.none]})::(X.ex++ps.flatten):=by simp[Fx.px]
 rw[w]at N D
 have sub:∀q ∈ X.px++ps.flatten,q ∈ X.own++(e,({ cls:= .ref C,dict:=some d,data:= .fields #[t,.none,.none,.none,.bool false,.none]}:Obj))::(X.ex++ps.flatten):=fun q hq=>by
  simp only [Fx.px,List.append_assoc,List.mem_append,List.mem_cons]at hq ⊢
  rcases hq with h | h | h
  .exact .inl h
  .exact .inr (.inr (.inl h))
  .exact .inr (.inr (.inr h))
 have D2:By (X.px++ps.flatten):=by
  unfold By at D ⊢
  refine D.sublist (List.Sublist.map _ ?_)
  rw[Fx.px,List.append_assoc]
  exact(List.sublist_cons_self _ _).append_left _
 have ne:∀q ∈ X.px++ps.flatten,q.1≠e:=by
  have pm:=BQ (List.perm_middle (l₁:=X.own) (a:=(e,({ cls:= .ref C,dict:=some d,data:= .fields #[t,.none,.none,.none,.bool false,.none]}:Obj))) (l₂:=X.ex++ps.flatten)) D
  unfold By at pm
  rw[List.map_cons,List.nodup_cons]at pm
  intro q hq z
  refine pm.1 (List.mem_map.mpr ⟨q,?_,z⟩)
  rw[<-List.append_assoc]
  exact hq
 have he:=(N _ (Da _ (.head _))).1
 have gE:=(N _ (Da _ (.head _))).2.2
 dsimp only at he gE
 obtain⟨A₀,outer,B,hl⟩:=cx.B
 have K':=pushX B F cx.hf cx.hk
 rw[<-hl]at K'
 let as:=e::X.l.filterMap (·.frame)
 have inl:∀env ∈ X.l,∀b,env.frame=some b->b ∈ as:=fun env he b hb=> .tail _ (List.mem_filterMap.mpr ⟨env,he,hb⟩)
 have baseE:X.base.get? e=none:=fresh_of_stays B.stays gE
 have hidden:∀b o,h'.get? b=some o->b ∉ as->(hideAll h' as).get? b=some o:=fun b o hb hn=>hideAll_get _ hb hn
 refine⟨ps,h',p,D2,lo,⟨hideAll h' as,d,_,j,v,fun b o q=> ?_,fun q hq=>⟨?_,fresh_of_stays B.stays (N q (sub q hq)).2.2⟩,fun b o q=>of_hideAll _ q,hideAll_none _ (.head _),funFrames_hide K'.frames inl,⟨_,_,he,rfl,rfl,rfl,by simp,.inl rfl⟩,hidden _ _ hd ?_,by unfold getL;simp[Value.isStr]⟩,F,Heap.UpToSlots.refl _⟩
 .refine hidden _ _ (K'.stays b o q) fun hm=> ?_
  rcases List.mem_cons.mp hm with rfl | hm
  .rw [baseE]at q;cases q
  .rw [(K'.frames.mem hm).1]at q;cases q
 .have JK:=ne q hq
  have N':=N q (sub q hq)
  refine hidden _ _ N'.1 fun hm=> ?_
  rcases List.mem_cons.mp hm with z | hm
  .exact JK z
  .obtain ⟨env,hen,hf⟩:=List.mem_filterMap.mp hm
   rw[hl]at hen
   rcases List.mem_cons.mp hen with rfl | hen
   .rw [cx.hf]at hf
    exact N'.2.1 (Option.some.inj hf).symm
   .obtain ⟨o,ho,_⟩:=(B.frames.mem (List.mem_filterMap.mpr ⟨env,hen,hf⟩)).2
    rw[N'.2.2]at ho;cases ho
 .intro hm
  rcases List.mem_cons.mp hm with z | hm
  .exact hde z
  .obtain ⟨env,hen,hf⟩:=List.mem_filterMap.mp hm
   exact hfr env hen d hf rfl
theorem SL(ue:UE U C D fI cd)(rm:DK A n 3){m:Nat}{k:Nat}{p1 p2:Pos}(hn:Dl ns "Refusal"=true):
  SS U (.ref C) Cc A Ad env n ns Γ (.raise m) (.Raise (some (.Call (.Name "Refusal" p1) [.Constant (.str (wd m)) k p2] [] cpos)) none pos):=by
 intro X ρ H s vs Q E sx x eo hp
 have cx:=sx.cx
 obtain⟨nm,q,N,bs,hdct,sn,sub,ab,col,dd,k0,k1,k2,k3,k5,hobj⟩:=ue.obj
 rw[arm_exec_Raise]
 refine As (wpAny_standAt ?_)
 refine Nf (C:=C) (D:=D) (nm:=nm) (q:=q) (N:=N) (bs:=bs) (hdct:=hdct) (sn:=sn) (sub:=sub) (ab:=ab) (col:=col) (dd:=dd) (k0:=k0) (k1:=k1) (k2:=k2) (k3:=k3) (k5:=k5) cx.hh ?_
 refine As ?_
 refine wpAny_mono (Q:=fun v s₁=>∃e t d,v=.ref e/\s₁.heap.get? C=some (excClassObj nm q C N bs (.ref D::B9) hdct sn sub ab col dd k0 k1 k2 k3 k5 "Exception.__new__")/\
   s₁.heap.get? e=some { cls:= .ref C,dict:=some d,data:= .fields #[.ref t,.none,.none,.none,.bool false,.none]}/\E (.ref e) s₁) ?_ (fun v s' hv=>As (wpAny_standAt (BE hv))) fun J J e=>e
 refine BC (Dy sx.ek cx.gf x hn ue.name ?_)
 refine Au (P:=U.K.In) rfl (fun h X=>keeps_K ue.keep h X) ?_
 refine spliced_more (wpAny_Constant_str ?_) (AH rfl)
 have KI:=cx.gf.K.keeps x.fr.keep
 refine wpAny_items_nil ⟨KI,?_⟩
 obtain⟨hp0,gg,dr,tk0,os⟩:=s
 refine Jq (F:=PySem.F.excBase_Exception) (X:=KI) (tail_of_in KI ue.tail) (KI _ _ hobj) ue.init ue.isfn fun h2 e2=> ?_
 dsimp only at x KI
 have xa:=FS.addEx (a:=hp0.objs.size) (o:={ cls:= .type "tuple",data:= .seq [Value.str (wd m) tk0].toArray}) x (h':=hp0.push { cls:= .type "tuple",data:= .seq [Value.str (wd m) tk0].toArray}) (fun b o e=>Ds _ e) (Heap.get?_push_size _ rfl) (Nat.le_refl _)
 have xb:=FS.addEx (a:=hp0.objs.size+1) (o:={ cls:= .ref C,data:= .fields #[.ref hp0.objs.size,.none,.none,.none,.bool false,.none]}) xa (h':=h2) (fun b o e=>by rw[e2];exact Ds _ e) (by rw[e2];exact Heap.get?_push_at (by simp only [Heap.size_push]) rfl) (by rw[Heap.size_push];exact Nat.le_refl _)
 have KI2:U.K.In h2:=by rw[e2];exact KI.keeps fun b o e=>Ds _ (Ds _ e)
 obtain⟨oc,od,osl,name,qual,params,scope,dV,kV,doc,pm,an,cdv,ct,q1,q2,q3,q4,hfn,hcd,sc,on1,on2,bind⟩:=ue.fn
 have rm2:DK A n 1:=⟨by have:=rm.1;exact dA ‹_› (by rfl),by have:=rm.2;exact dA ‹_› (by rfl)⟩
 have cxu:=cx.under rm2 C [Value.str (wd m) tk0]
 have rmu:DK (A.under (.builtin "type.__call__" ⟨[.ref C,.str (wd m) tk0],[]⟩)) n (1+1):=by
  have:=rm
  unfold DK at this ⊢
  rw[depth_under_make,units_under_make]
  exact⟨dF (And.left ‹_›) (by rfl),dF (And.right ‹_›) (by rfl)⟩
 have e0:hp0.objs.size+1≠hp0.objs.size:=by exact fun e=>e7 e
 refine wpAny_call (Wh (k:=1) (X:=X.withEx ((hp0.objs.size+1,{ cls:= .ref C,data:= .fields #[.ref hp0.objs.size,.none,.none,.none,.bool false,.none]})::(hp0.objs.size,{ cls:= .type "tuple",data:= .seq [Value.str (wd m) tk0].toArray})::X.ex)) (xc:= .ref C) (cxu.ex _) rmu (s:=⟨h2,gg,dr,tk0+1,os⟩) (binds:=[("self",.ref (hp0.objs.size+1)),("message",.str (wd m) tk0)]) xb sc (KI2 _ _ hfn) rfl (codeRec_of KI2 hcd) (bind _ _ _ KI2) fun X' h₁ tk Ai B8 hex hbase hl rm3 sx' x' ld=> ?_)
 have ek':=sx'.ek
 refine wpAny_execs_cons (plainObj_wpAny_Assign_Attribute ?_ (by rfl))
 refine IT ek' x' on2 (ld "message" _ rfl) ?_
 refine IT ek' x' on1 (ld "self" _ rfl) ?_
 have he1:h₁.get? (hp0.objs.size+1)=some { cls:= .ref C,data:= .fields #[.ref hp0.objs.size,.none,.none,.none,.bool false,.none]}:=x'.exGet (p:=(hp0.objs.size+1,_)) (by rw[hex];exact Da _ (.head _))
 have KI1:U.K.In h₁:=sx'.cx.gf.K.keeps x'.fr.keep
 refine Vq (s:=⟨h₁,gg,dr,tk,os⟩) (D:=D) KI1 he1 ue.cls ue.mro ue.hd ue.seta ue.taker fun h3 tk3 g1 g2 g3=> ?_
 refine wpAny_execs_nil ?_
 obtain⟨t3,n3,hd3⟩:=g2
 have x3:=Qh (X:=X') (pre:=X.own) (post:=(hp0.objs.size,{ cls:= .type "tuple",data:= .seq [Value.str (wd m) tk0].toArray})::X.ex) x' (by rw[hex]) g3 g1
 refine⟨_,(hp0.objs.size+1,{ cls:= .ref C,dict:=some h₁.objs.size,data:= .fields #[.ref hp0.objs.size,.none,.none,.none,.bool false,.none]})::(hp0.objs.size,{ cls:= .type "tuple",data:= .seq [Value.str (wd m) tk0].toArray})::X.ex,ρ,H,.none,?_,?_,x3,rfl,fun FX=>⟨rfl,hp0.objs.size+1,hp0.objs.size,h₁.objs.size,rfl,?_,g1,?_⟩⟩
 .rfl
 .exact List.Sublist.refl _
 .have:X.G.get? C=some _:=cx.gf.K _ _ hobj
  exact FX.fr.keep _ _ this
 .refine hp X ρ (hp0.objs.size+1) h3 tk3 .refl (BF _) ?_
  refine TA (h':=h3) (d:=h₁.objs.size) cx (FS.dropEx0 (X:=X) (FS.swapEx (X:=X) FX) |> fun z=>z) hd3 (Nat.ne_of_gt (Heap.lt_size he1)) (fun env he b hb hbd=> ?_)
  obtain⟨A₁,outer₁,B₁,hl₁⟩:=sx'.cx.B
  rw[hl]at hl₁
  have e3:outer₁=X.l:=(List.cons.inj hl₁).2.symm
  rw[e3]at B₁
  obtain⟨o,ho,_⟩:=(B₁.frames.mem (List.mem_filterMap.mpr ⟨env,he,hb⟩)).2
  have:=Heap.lt_size (x'.fr.keep _ _ ho)
  rw[hbd]at this
  exact absurd this (Nat.lt_irrefl _)
end
theorem nf{p:Prop}(h:false=true):p:=Bool.noConfusion h
theorem Ag{a b:Bool}(h:(a&&b)=true):a=true:=((DN a b).mp h).1
theorem Ak{a b:Bool}(h:(a&&b)=true):b=true:=((DN a b).mp h).2
theorem bq{α:Type}[BEq α][LawfulBEq α]{P:α->Prop}{x y:α}(h:(x==y)=true)(p:P y):P x:=eq_of_beq h▸p
theorem nt{b:Bool}(h:(!b)=true):b=false:=by cases b with | false=>rfl | true=>cases h
noncomputable def KQ(e:Expr)(k:BoolOp->List Expr->Pos->Bool):Bool:= @Expr.casesOn (fun J=>Bool) e k (fun J J J=>false) (fun J J J J=>false) (fun J J J=>false) (fun J J J J=>false) (fun J J J J=>false) (fun J J J=>false) (fun J J J=>false) (fun J J J J=>false) (fun J J J J=>false) (fun J J J J J=>false) (fun J J J J=>false) (fun J J=>false) (fun J J=>false) (fun J J=>false) (fun J J J J=>false) (fun J J J J=>false) (fun J J J J=>false) (fun J J=>false) (fun J J J=>false) (fun J J J=>false) (fun J J J=>false) (fun J J=>false) (fun J J=>false) (fun J J=>false) (fun J J J=>false) (fun J J J J=>false)
theorem NZ{P:Expr->Prop}{e:Expr}{k:BoolOp->List Expr->Pos->Bool}(h:KQ e k=true)(f:∀a0 a1 a2,k a0 a1 a2=true->P (.BoolOp a0 a1 a2)):P e:= @Expr.casesOn (fun e=>KQ e k=true->P e) e f (fun J J J=>nf) (fun J J J J=>nf) (fun J J J=>nf) (fun J J J J=>nf) (fun J J J J=>nf) (fun J J J=>nf) (fun J J J=>nf) (fun J J J J=>nf) (fun J J J J=>nf) (fun J J J J J=>nf) (fun J J J J=>nf) (fun J J=>nf) (fun J J=>nf) (fun J J=>nf) (fun J J J J=>nf) (fun J J J J=>nf) (fun J J J J=>nf) (fun J J=>nf) (fun J J J=>nf) (fun J J J=>nf) (fun J J J=>nf) (fun J J=>nf) (fun J J=>nf) (fun J J=>nf) (fun J J J=>nf) (fun J J J J=>nf) h
noncomputable def Nw(e:Expr)(k:Expr->Operator->Expr->Pos->Bool):Bool:= @Expr.casesOn (fun J=>Bool) e (fun J J J=>false) (fun J J J=>false) k (fun J J J=>false) (fun J J J J=>false) (fun J J J J=>false) (fun J J J=>false) (fun J J J=>false) (fun J J J J=>false) (fun J J J J=>false) (fun J J J J J=>false) (fun J J J J=>false) (fun J J=>false) (fun J J=>false) (fun J J=>false) (fun J J J J=>false) (fun J J J J=>false) (fun J J J J=>false) (fun J J=>false) (fun J J J=>false) (fun J J J=>false) (fun J J J=>false) (fun J J=>false) (fun J J=>false) (fun J J=>false) (fun J J J=>false) (fun J J J J=>false)
theorem Qb{P:Expr->Prop}{e:Expr}{k:Expr->Operator->Expr->Pos->Bool}(h:Nw e k=true)(f:∀a0 a1 a2 a3,k a0 a1 a2 a3=true->P (.BinOp a0 a1 a2 a3)):P e:= @Expr.casesOn (fun e=>Nw e k=true->P e) e (fun J J J=>nf) (fun J J J=>nf) f (fun J J J=>nf) (fun J J J J=>nf) (fun J J J J=>nf) (fun J J J=>nf) (fun J J J=>nf) (fun J J J J=>nf) (fun J J J J=>nf) (fun J J J J J=>nf) (fun J J J J=>nf) (fun J J=>nf) (fun J J=>nf) (fun J J=>nf) (fun J J J J=>nf) (fun J J J J=>nf) (fun J J J J=>nf) (fun J J=>nf) (fun J J J=>nf) (fun J J J=>nf) (fun J J J=>nf) (fun J J=>nf) (fun J J=>nf) (fun J J=>nf) (fun J J J=>nf) (fun J J J J=>nf) h
noncomputable def Gv(e:Expr)(k:UnaryOp->Expr->Pos->Bool):Bool:= @Expr.casesOn (fun J=>Bool) e (fun J J J=>false) (fun J J J=>false) (fun J J J J=>false) k (fun J J J J=>false) (fun J J J J=>false) (fun J J J=>false) (fun J J J=>false) (fun J J J J=>false) (fun J J J J=>false) (fun J J J J J=>false) (fun J J J J=>false) (fun J J=>false) (fun J J=>false) (fun J J=>false) (fun J J J J=>false) (fun J J J J=>false) (fun J J J J=>false) (fun J J=>false) (fun J J J=>false) (fun J J J=>false) (fun J J J=>false) (fun J J=>false) (fun J J=>false) (fun J J=>false) (fun J J J=>false) (fun J J J J=>false)
theorem HJ{P:Expr->Prop}{e:Expr}{k:UnaryOp->Expr->Pos->Bool}(h:Gv e k=true)(f:∀a0 a1 a2,k a0 a1 a2=true->P (.UnaryOp a0 a1 a2)):P e:= @Expr.casesOn (fun e=>Gv e k=true->P e) e (fun J J J=>nf) (fun J J J=>nf) (fun J J J J=>nf) f (fun J J J J=>nf) (fun J J J J=>nf) (fun J J J=>nf) (fun J J J=>nf) (fun J J J J=>nf) (fun J J J J=>nf) (fun J J J J J=>nf) (fun J J J J=>nf) (fun J J=>nf) (fun J J=>nf) (fun J J=>nf) (fun J J J J=>nf) (fun J J J J=>nf) (fun J J J J=>nf) (fun J J=>nf) (fun J J J=>nf) (fun J J J=>nf) (fun J J J=>nf) (fun J J=>nf) (fun J J=>nf) (fun J J=>nf) (fun J J J=>nf) (fun J J J J=>nf) h
noncomputable def KE(e:Expr)(k:Arguments->Expr->Scope->Pos->Bool):Bool:= @Expr.casesOn (fun J=>Bool) e (fun J J J=>false) (fun J J J=>false) (fun J J J J=>false) (fun J J J=>false) k (fun J J J J=>false) (fun J J J=>false) (fun J J J=>false) (fun J J J J=>false) (fun J J J J=>false) (fun J J J J J=>false) (fun J J J J=>false) (fun J J=>false) (fun J J=>false) (fun J J=>false) (fun J J J J=>false) (fun J J J J=>false) (fun J J J J=>false) (fun J J=>false) (fun J J J=>false) (fun J J J=>false) (fun J J J=>false) (fun J J=>false) (fun J J=>false) (fun J J=>false) (fun J J J=>false) (fun J J J J=>false)
theorem M8{P:Expr->Prop}{e:Expr}{k:Arguments->Expr->Scope->Pos->Bool}(h:KE e k=true)(f:∀a0 a1 a2 a3,k a0 a1 a2 a3=true->P (.Lambda a0 a1 a2 a3)):P e:= @Expr.casesOn (fun e=>KE e k=true->P e) e (fun J J J=>nf) (fun J J J=>nf) (fun J J J J=>nf) (fun J J J=>nf) f (fun J J J J=>nf) (fun J J J=>nf) (fun J J J=>nf) (fun J J J J=>nf) (fun J J J J=>nf) (fun J J J J J=>nf) (fun J J J J=>nf) (fun J J=>nf) (fun J J=>nf) (fun J J=>nf) (fun J J J J=>nf) (fun J J J J=>nf) (fun J J J J=>nf) (fun J J=>nf) (fun J J J=>nf) (fun J J J=>nf) (fun J J J=>nf) (fun J J=>nf) (fun J J=>nf) (fun J J=>nf) (fun J J J=>nf) (fun J J J J=>nf) h
noncomputable def Nj(e:Expr)(k:Expr->Expr->Expr->Pos->Bool):Bool:= @Expr.casesOn (fun J=>Bool) e (fun J J J=>false) (fun J J J=>false) (fun J J J J=>false) (fun J J J=>false) (fun J J J J=>false) k (fun J J J=>false) (fun J J J=>false) (fun J J J J=>false) (fun J J J J=>false) (fun J J J J J=>false) (fun J J J J=>false) (fun J J=>false) (fun J J=>false) (fun J J=>false) (fun J J J J=>false) (fun J J J J=>false) (fun J J J J=>false) (fun J J=>false) (fun J J J=>false) (fun J J J=>false) (fun J J J=>false) (fun J J=>false) (fun J J=>false) (fun J J=>false) (fun J J J=>false) (fun J J J J=>false)
theorem Px{P:Expr->Prop}{e:Expr}{k:Expr->Expr->Expr->Pos->Bool}(h:Nj e k=true)(f:∀a0 a1 a2 a3,k a0 a1 a2 a3=true->P (.IfExp a0 a1 a2 a3)):P e:= @Expr.casesOn (fun e=>Nj e k=true->P e) e (fun J J J=>nf) (fun J J J=>nf) (fun J J J J=>nf) (fun J J J=>nf) (fun J J J J=>nf) f (fun J J J=>nf) (fun J J J=>nf) (fun J J J J=>nf) (fun J J J J=>nf) (fun J J J J J=>nf) (fun J J J J=>nf) (fun J J=>nf) (fun J J=>nf) (fun J J=>nf) (fun J J J J=>nf) (fun J J J J=>nf) (fun J J J J=>nf) (fun J J=>nf) (fun J J J=>nf) (fun J J J=>nf) (fun J J J=>nf) (fun J J=>nf) (fun J J=>nf) (fun J J=>nf) (fun J J J=>nf) (fun J J J J=>nf) h
noncomputable def MQ(e:Expr)(k:List (Option Expr)->List Expr->Pos->Bool):Bool:= @Expr.casesOn (fun J=>Bool) e (fun J J J=>false) (fun J J J=>false) (fun J J J J=>false) (fun J J J=>false) (fun J J J J=>false) (fun J J J J=>false) k (fun J J J=>false) (fun J J J J=>false) (fun J J J J=>false) (fun J J J J J=>false) (fun J J J J=>false) (fun J J=>false) (fun J J=>false) (fun J J=>false) (fun J J J J=>false) (fun J J J J=>false) (fun J J J J=>false) (fun J J=>false) (fun J J J=>false) (fun J J J=>false) (fun J J J=>false) (fun J J=>false) (fun J J=>false) (fun J J=>false) (fun J J J=>false) (fun J J J J=>false)
theorem I2{P:Expr->Prop}{e:Expr}{k:List (Option Expr)->List Expr->Pos->Bool}(h:MQ e k=true)(f:∀a0 a1 a2,k a0 a1 a2=true->P (.Dict a0 a1 a2)):P e:= @Expr.casesOn (fun e=>MQ e k=true->P e) e (fun J J J=>nf) (fun J J J=>nf) (fun J J J J=>nf) (fun J J J=>nf) (fun J J J J=>nf) (fun J J J J=>nf) f (fun J J J=>nf) (fun J J J J=>nf) (fun J J J J=>nf) (fun J J J J J=>nf) (fun J J J J=>nf) (fun J J=>nf) (fun J J=>nf) (fun J J=>nf) (fun J J J J=>nf) (fun J J J J=>nf) (fun J J J J=>nf) (fun J J=>nf) (fun J J J=>nf) (fun J J J=>nf) (fun J J J=>nf) (fun J J=>nf) (fun J J=>nf) (fun J J=>nf) (fun J J J=>nf) (fun J J J J=>nf) h
noncomputable def DU(e:Expr)(k:Expr->List Comprehension->Scope->Pos->Bool):Bool:= @Expr.casesOn (fun J=>Bool) e (fun J J J=>false) (fun J J J=>false) (fun J J J J=>false) (fun J J J=>false) (fun J J J J=>false) (fun J J J J=>false) (fun J J J=>false) (fun J J J=>false) k (fun J J J J=>false) (fun J J J J J=>false) (fun J J J J=>false) (fun J J=>false) (fun J J=>false) (fun J J=>false) (fun J J J J=>false) (fun J J J J=>false) (fun J J J J=>false) (fun J J=>false) (fun J J J=>false) (fun J J J=>false) (fun J J J=>false) (fun J J=>false) (fun J J=>false) (fun J J=>false) (fun J J J=>false) (fun J J J J=>false)
theorem DO{P:Expr->Prop}{e:Expr}{k:Expr->List Comprehension->Scope->Pos->Bool}(h:DU e k=true)(f:∀a0 a1 a2 a3,k a0 a1 a2 a3=true->P (.ListComp a0 a1 a2 a3)):P e:= @Expr.casesOn (fun e=>DU e k=true->P e) e (fun J J J=>nf) (fun J J J=>nf) (fun J J J J=>nf) (fun J J J=>nf) (fun J J J J=>nf) (fun J J J J=>nf) (fun J J J=>nf) (fun J J J=>nf) f (fun J J J J=>nf) (fun J J J J J=>nf) (fun J J J J=>nf) (fun J J=>nf) (fun J J=>nf) (fun J J=>nf) (fun J J J J=>nf) (fun J J J J=>nf) (fun J J J J=>nf) (fun J J=>nf) (fun J J J=>nf) (fun J J J=>nf) (fun J J J=>nf) (fun J J=>nf) (fun J J=>nf) (fun J J=>nf) (fun J J J=>nf) (fun J J J J=>nf) h
noncomputable def FI(e:Expr)(k:Expr->Expr->List Comprehension->Scope->Pos->Bool):Bool:= @Expr.casesOn (fun J=>Bool) e (fun J J J=>false) (fun J J J=>false) (fun J J J J=>false) (fun J J J=>false) (fun J J J J=>false) (fun J J J J=>false) (fun J J J=>false) (fun J J J=>false) (fun J J J J=>false) (fun J J J J=>false) k (fun J J J J=>false) (fun J J=>false) (fun J J=>false) (fun J J=>false) (fun J J J J=>false) (fun J J J J=>false) (fun J J J J=>false) (fun J J=>false) (fun J J J=>false) (fun J J J=>false) (fun J J J=>false) (fun J J=>false) (fun J J=>false) (fun J J=>false) (fun J J J=>false) (fun J J J J=>false)
theorem GP{P:Expr->Prop}{e:Expr}{k:Expr->Expr->List Comprehension->Scope->Pos->Bool}(h:FI e k=true)(f:∀a0 a1 a2 a3 a4,k a0 a1 a2 a3 a4=true->P (.DictComp a0 a1 a2 a3 a4)):P e:= @Expr.casesOn (fun e=>FI e k=true->P e) e (fun J J J=>nf) (fun J J J=>nf) (fun J J J J=>nf) (fun J J J=>nf) (fun J J J J=>nf) (fun J J J J=>nf) (fun J J J=>nf) (fun J J J=>nf) (fun J J J J=>nf) (fun J J J J=>nf) f (fun J J J J=>nf) (fun J J=>nf) (fun J J=>nf) (fun J J=>nf) (fun J J J J=>nf) (fun J J J J=>nf) (fun J J J J=>nf) (fun J J=>nf) (fun J J J=>nf) (fun J J J=>nf) (fun J J J=>nf) (fun J J=>nf) (fun J J=>nf) (fun J J=>nf) (fun J J J=>nf) (fun J J J J=>nf) h
noncomputable def Iq(e:Expr)(k:Expr->List CmpOp->List Expr->Pos->Bool):Bool:= @Expr.casesOn (fun J=>Bool) e (fun J J J=>false) (fun J J J=>false) (fun J J J J=>false) (fun J J J=>false) (fun J J J J=>false) (fun J J J J=>false) (fun J J J=>false) (fun J J J=>false) (fun J J J J=>false) (fun J J J J=>false) (fun J J J J J=>false) (fun J J J J=>false) (fun J J=>false) (fun J J=>false) (fun J J=>false) k (fun J J J J=>false) (fun J J J J=>false) (fun J J=>false) (fun J J J=>false) (fun J J J=>false) (fun J J J=>false) (fun J J=>false) (fun J J=>false) (fun J J=>false) (fun J J J=>false) (fun J J J J=>false)
theorem MA{P:Expr->Prop}{e:Expr}{k:Expr->List CmpOp->List Expr->Pos->Bool}(h:Iq e k=true)(f:∀a0 a1 a2 a3,k a0 a1 a2 a3=true->P (.Compare a0 a1 a2 a3)):P e:= @Expr.casesOn (fun e=>Iq e k=true->P e) e (fun J J J=>nf) (fun J J J=>nf) (fun J J J J=>nf) (fun J J J=>nf) (fun J J J J=>nf) (fun J J J J=>nf) (fun J J J=>nf) (fun J J J=>nf) (fun J J J J=>nf) (fun J J J J=>nf) (fun J J J J J=>nf) (fun J J J J=>nf) (fun J J=>nf) (fun J J=>nf) (fun J J=>nf) f (fun J J J J=>nf) (fun J J J J=>nf) (fun J J=>nf) (fun J J J=>nf) (fun J J J=>nf) (fun J J J=>nf) (fun J J=>nf) (fun J J=>nf) (fun J J=>nf) (fun J J J=>nf) (fun J J J J=>nf) h
noncomputable def MM(e:Expr)(k:Expr->List Expr->List Keyword->Pos->Bool):Bool:= @Expr.casesOn (fun J=>Bool) e (fun J J J=>false) (fun J J J=>false) (fun J J J J=>false) (fun J J J=>false) (fun J J J J=>false) (fun J J J J=>false) (fun J J J=>false) (fun J J J=>false) (fun J J J J=>false) (fun J J J J=>false) (fun J J J J J=>false) (fun J J J J=>false) (fun J J=>false) (fun J J=>false) (fun J J=>false) (fun J J J J=>false) k (fun J J J J=>false) (fun J J=>false) (fun J J J=>false) (fun J J J=>false) (fun J J J=>false) (fun J J=>false) (fun J J=>false) (fun J J=>false) (fun J J J=>false) (fun J J J J=>false)
theorem Ir{P:Expr->Prop}{e:Expr}{k:Expr->List Expr->List Keyword->Pos->Bool}(h:MM e k=true)(f:∀a0 a1 a2 a3,k a0 a1 a2 a3=true->P (.Call a0 a1 a2 a3)):P e:= @Expr.casesOn (fun e=>MM e k=true->P e) e (fun J J J=>nf) (fun J J J=>nf) (fun J J J J=>nf) (fun J J J=>nf) (fun J J J J=>nf) (fun J J J J=>nf) (fun J J J=>nf) (fun J J J=>nf) (fun J J J J=>nf) (fun J J J J=>nf) (fun J J J J J=>nf) (fun J J J J=>nf) (fun J J=>nf) (fun J J=>nf) (fun J J=>nf) (fun J J J J=>nf) f (fun J J J J=>nf) (fun J J=>nf) (fun J J J=>nf) (fun J J J=>nf) (fun J J J=>nf) (fun J J=>nf) (fun J J=>nf) (fun J J=>nf) (fun J J J=>nf) (fun J J J J=>nf) h
noncomputable def FF(e:Expr)(k:Const->Nat->Pos->Bool):Bool:= @Expr.casesOn (fun J=>Bool) e (fun J J J=>false) (fun J J J=>false) (fun J J J J=>false) (fun J J J=>false) (fun J J J J=>false) (fun J J J J=>false) (fun J J J=>false) (fun J J J=>false) (fun J J J J=>false) (fun J J J J=>false) (fun J J J J J=>false) (fun J J J J=>false) (fun J J=>false) (fun J J=>false) (fun J J=>false) (fun J J J J=>false) (fun J J J J=>false) (fun J J J J=>false) (fun J J=>false) k (fun J J J=>false) (fun J J J=>false) (fun J J=>false) (fun J J=>false) (fun J J=>false) (fun J J J=>false) (fun J J J J=>false)
theorem GJ{P:Expr->Prop}{e:Expr}{k:Const->Nat->Pos->Bool}(h:FF e k=true)(f:∀a0 a1 a2,k a0 a1 a2=true->P (.Constant a0 a1 a2)):P e:= @Expr.casesOn (fun e=>FF e k=true->P e) e (fun J J J=>nf) (fun J J J=>nf) (fun J J J J=>nf) (fun J J J=>nf) (fun J J J J=>nf) (fun J J J J=>nf) (fun J J J=>nf) (fun J J J=>nf) (fun J J J J=>nf) (fun J J J J=>nf) (fun J J J J J=>nf) (fun J J J J=>nf) (fun J J=>nf) (fun J J=>nf) (fun J J=>nf) (fun J J J J=>nf) (fun J J J J=>nf) (fun J J J J=>nf) (fun J J=>nf) f (fun J J J=>nf) (fun J J J=>nf) (fun J J=>nf) (fun J J=>nf) (fun J J=>nf) (fun J J J=>nf) (fun J J J J=>nf) h
noncomputable def Dt(e:Expr)(k:Expr->Str->Pos->Bool):Bool:= @Expr.casesOn (fun J=>Bool) e (fun J J J=>false) (fun J J J=>false) (fun J J J J=>false) (fun J J J=>false) (fun J J J J=>false) (fun J J J J=>false) (fun J J J=>false) (fun J J J=>false) (fun J J J J=>false) (fun J J J J=>false) (fun J J J J J=>false) (fun J J J J=>false) (fun J J=>false) (fun J J=>false) (fun J J=>false) (fun J J J J=>false) (fun J J J J=>false) (fun J J J J=>false) (fun J J=>false) (fun J J J=>false) k (fun J J J=>false) (fun J J=>false) (fun J J=>false) (fun J J=>false) (fun J J J=>false) (fun J J J J=>false)
theorem DC{P:Expr->Prop}{e:Expr}{k:Expr->Str->Pos->Bool}(h:Dt e k=true)(f:∀a0 a1 a2,k a0 a1 a2=true->P (.Attribute a0 a1 a2)):P e:= @Expr.casesOn (fun e=>Dt e k=true->P e) e (fun J J J=>nf) (fun J J J=>nf) (fun J J J J=>nf) (fun J J J=>nf) (fun J J J J=>nf) (fun J J J J=>nf) (fun J J J=>nf) (fun J J J=>nf) (fun J J J J=>nf) (fun J J J J=>nf) (fun J J J J J=>nf) (fun J J J J=>nf) (fun J J=>nf) (fun J J=>nf) (fun J J=>nf) (fun J J J J=>nf) (fun J J J J=>nf) (fun J J J J=>nf) (fun J J=>nf) (fun J J J=>nf) f (fun J J J=>nf) (fun J J=>nf) (fun J J=>nf) (fun J J=>nf) (fun J J J=>nf) (fun J J J J=>nf) h
noncomputable def DA(e:Expr)(k:Expr->Expr->Pos->Bool):Bool:= @Expr.casesOn (fun J=>Bool) e (fun J J J=>false) (fun J J J=>false) (fun J J J J=>false) (fun J J J=>false) (fun J J J J=>false) (fun J J J J=>false) (fun J J J=>false) (fun J J J=>false) (fun J J J J=>false) (fun J J J J=>false) (fun J J J J J=>false) (fun J J J J=>false) (fun J J=>false) (fun J J=>false) (fun J J=>false) (fun J J J J=>false) (fun J J J J=>false) (fun J J J J=>false) (fun J J=>false) (fun J J J=>false) (fun J J J=>false) k (fun J J=>false) (fun J J=>false) (fun J J=>false) (fun J J J=>false) (fun J J J J=>false)
theorem DD{P:Expr->Prop}{e:Expr}{k:Expr->Expr->Pos->Bool}(h:DA e k=true)(f:∀a0 a1 a2,k a0 a1 a2=true->P (.Subscript a0 a1 a2)):P e:= @Expr.casesOn (fun e=>DA e k=true->P e) e (fun J J J=>nf) (fun J J J=>nf) (fun J J J J=>nf) (fun J J J=>nf) (fun J J J J=>nf) (fun J J J J=>nf) (fun J J J=>nf) (fun J J J=>nf) (fun J J J J=>nf) (fun J J J J=>nf) (fun J J J J J=>nf) (fun J J J J=>nf) (fun J J=>nf) (fun J J=>nf) (fun J J=>nf) (fun J J J J=>nf) (fun J J J J=>nf) (fun J J J J=>nf) (fun J J=>nf) (fun J J J=>nf) (fun J J J=>nf) f (fun J J=>nf) (fun J J=>nf) (fun J J=>nf) (fun J J J=>nf) (fun J J J J=>nf) h
noncomputable def Dp(e:Expr)(k:Str->Pos->Bool):Bool:= @Expr.casesOn (fun J=>Bool) e (fun J J J=>false) (fun J J J=>false) (fun J J J J=>false) (fun J J J=>false) (fun J J J J=>false) (fun J J J J=>false) (fun J J J=>false) (fun J J J=>false) (fun J J J J=>false) (fun J J J J=>false) (fun J J J J J=>false) (fun J J J J=>false) (fun J J=>false) (fun J J=>false) (fun J J=>false) (fun J J J J=>false) (fun J J J J=>false) (fun J J J J=>false) (fun J J=>false) (fun J J J=>false) (fun J J J=>false) (fun J J J=>false) (fun J J=>false) k (fun J J=>false) (fun J J J=>false) (fun J J J J=>false)
theorem BH{P:Expr->Prop}{e:Expr}{k:Str->Pos->Bool}(h:Dp e k=true)(f:∀a0 a1,k a0 a1=true->P (.Name a0 a1)):P e:= @Expr.casesOn (fun e=>Dp e k=true->P e) e (fun J J J=>nf) (fun J J J=>nf) (fun J J J J=>nf) (fun J J J=>nf) (fun J J J J=>nf) (fun J J J J=>nf) (fun J J J=>nf) (fun J J J=>nf) (fun J J J J=>nf) (fun J J J J=>nf) (fun J J J J J=>nf) (fun J J J J=>nf) (fun J J=>nf) (fun J J=>nf) (fun J J=>nf) (fun J J J J=>nf) (fun J J J J=>nf) (fun J J J J=>nf) (fun J J=>nf) (fun J J J=>nf) (fun J J J=>nf) (fun J J J=>nf) (fun J J=>nf) f (fun J J=>nf) (fun J J J=>nf) (fun J J J J=>nf) h
noncomputable def RD(e:Expr)(k:List Expr->Pos->Bool):Bool:= @Expr.casesOn (fun J=>Bool) e (fun J J J=>false) (fun J J J=>false) (fun J J J J=>false) (fun J J J=>false) (fun J J J J=>false) (fun J J J J=>false) (fun J J J=>false) (fun J J J=>false) (fun J J J J=>false) (fun J J J J=>false) (fun J J J J J=>false) (fun J J J J=>false) (fun J J=>false) (fun J J=>false) (fun J J=>false) (fun J J J J=>false) (fun J J J J=>false) (fun J J J J=>false) (fun J J=>false) (fun J J J=>false) (fun J J J=>false) (fun J J J=>false) (fun J J=>false) (fun J J=>false) k (fun J J J=>false) (fun J J J J=>false)
theorem Ro{P:Expr->Prop}{e:Expr}{k:List Expr->Pos->Bool}(h:RD e k=true)(f:∀a0 a1,k a0 a1=true->P (.List a0 a1)):P e:= @Expr.casesOn (fun e=>RD e k=true->P e) e (fun J J J=>nf) (fun J J J=>nf) (fun J J J J=>nf) (fun J J J=>nf) (fun J J J J=>nf) (fun J J J J=>nf) (fun J J J=>nf) (fun J J J=>nf) (fun J J J J=>nf) (fun J J J J=>nf) (fun J J J J J=>nf) (fun J J J J=>nf) (fun J J=>nf) (fun J J=>nf) (fun J J=>nf) (fun J J J J=>nf) (fun J J J J=>nf) (fun J J J J=>nf) (fun J J=>nf) (fun J J J=>nf) (fun J J J=>nf) (fun J J J=>nf) (fun J J=>nf) (fun J J=>nf) f (fun J J J=>nf) (fun J J J J=>nf) h
noncomputable def Hf(e:Expr)(k:List Expr->Nat->Pos->Bool):Bool:= @Expr.casesOn (fun J=>Bool) e (fun J J J=>false) (fun J J J=>false) (fun J J J J=>false) (fun J J J=>false) (fun J J J J=>false) (fun J J J J=>false) (fun J J J=>false) (fun J J J=>false) (fun J J J J=>false) (fun J J J J=>false) (fun J J J J J=>false) (fun J J J J=>false) (fun J J=>false) (fun J J=>false) (fun J J=>false) (fun J J J J=>false) (fun J J J J=>false) (fun J J J J=>false) (fun J J=>false) (fun J J J=>false) (fun J J J=>false) (fun J J J=>false) (fun J J=>false) (fun J J=>false) (fun J J=>false) k (fun J J J J=>false)
theorem Fv{P:Expr->Prop}{e:Expr}{k:List Expr->Nat->Pos->Bool}(h:Hf e k=true)(f:∀a0 a1 a2,k a0 a1 a2=true->P (.Tuple a0 a1 a2)):P e:= @Expr.casesOn (fun e=>Hf e k=true->P e) e (fun J J J=>nf) (fun J J J=>nf) (fun J J J J=>nf) (fun J J J=>nf) (fun J J J J=>nf) (fun J J J J=>nf) (fun J J J=>nf) (fun J J J=>nf) (fun J J J J=>nf) (fun J J J J=>nf) (fun J J J J J=>nf) (fun J J J J=>nf) (fun J J=>nf) (fun J J=>nf) (fun J J=>nf) (fun J J J J=>nf) (fun J J J J=>nf) (fun J J J J=>nf) (fun J J=>nf) (fun J J J=>nf) (fun J J J=>nf) (fun J J J=>nf) (fun J J=>nf) (fun J J=>nf) (fun J J=>nf) f (fun J J J J=>nf) h
noncomputable def KW(e:Expr)(k:Option Expr->Option Expr->Option Expr->Pos->Bool):Bool:= @Expr.casesOn (fun J=>Bool) e (fun J J J=>false) (fun J J J=>false) (fun J J J J=>false) (fun J J J=>false) (fun J J J J=>false) (fun J J J J=>false) (fun J J J=>false) (fun J J J=>false) (fun J J J J=>false) (fun J J J J=>false) (fun J J J J J=>false) (fun J J J J=>false) (fun J J=>false) (fun J J=>false) (fun J J=>false) (fun J J J J=>false) (fun J J J J=>false) (fun J J J J=>false) (fun J J=>false) (fun J J J=>false) (fun J J J=>false) (fun J J J=>false) (fun J J=>false) (fun J J=>false) (fun J J=>false) (fun J J J=>false) k
theorem JU{P:Expr->Prop}{e:Expr}{k:Option Expr->Option Expr->Option Expr->Pos->Bool}(h:KW e k=true)(f:∀a0 a1 a2 a3,k a0 a1 a2 a3=true->P (.Slice a0 a1 a2 a3)):P e:= @Expr.casesOn (fun e=>KW e k=true->P e) e (fun J J J=>nf) (fun J J J=>nf) (fun J J J J=>nf) (fun J J J=>nf) (fun J J J J=>nf) (fun J J J J=>nf) (fun J J J=>nf) (fun J J J=>nf) (fun J J J J=>nf) (fun J J J J=>nf) (fun J J J J J=>nf) (fun J J J J=>nf) (fun J J=>nf) (fun J J=>nf) (fun J J=>nf) (fun J J J J=>nf) (fun J J J J=>nf) (fun J J J J=>nf) (fun J J=>nf) (fun J J J=>nf) (fun J J J=>nf) (fun J J J=>nf) (fun J J=>nf) (fun J J=>nf) (fun J J=>nf) (fun J J J=>nf) f h
noncomputable def GG(e:Stmt)(k:Option Expr->Pos->Bool):Bool:= @Stmt.casesOn (fun J=>Bool) e (fun J J J J J J J J J J=>false) (fun J J J J J J J J J J=>false) (fun J J J J J J J J J J J=>false) k (fun J J=>false) (fun J J J=>false) (fun J J J J J J J=>false) (fun J J J J=>false) (fun J J J J J=>false) (fun J J J J J=>false) (fun J J J J J=>false) (fun J J J J=>false) (fun J J J J=>false) (fun J J J=>false) (fun J J J=>false) (fun J J J=>false) (fun J J J=>false) (fun J J J J J=>false) (fun J J J J J=>false) (fun J J J=>false) (fun J J=>false) (fun J J J J=>false) (fun J J=>false) (fun J J=>false) (fun J J=>false) (fun J=>false) (fun J=>false) (fun J=>false)
theorem Gj{P:Stmt->Prop}{e:Stmt}{k:Option Expr->Pos->Bool}(h:GG e k=true)(f:∀a0 a1,k a0 a1=true->P (.Return a0 a1)):P e:= @Stmt.casesOn (fun e=>GG e k=true->P e) e (fun J J J J J J J J J J=>nf) (fun J J J J J J J J J J=>nf) (fun J J J J J J J J J J J=>nf) f (fun J J=>nf) (fun J J J=>nf) (fun J J J J J J J=>nf) (fun J J J J=>nf) (fun J J J J J=>nf) (fun J J J J J=>nf) (fun J J J J J=>nf) (fun J J J J=>nf) (fun J J J J=>nf) (fun J J J=>nf) (fun J J J=>nf) (fun J J J=>nf) (fun J J J=>nf) (fun J J J J J=>nf) (fun J J J J J=>nf) (fun J J J=>nf) (fun J J=>nf) (fun J J J J=>nf) (fun J J=>nf) (fun J J=>nf) (fun J J=>nf) (fun J=>nf) (fun J=>nf) (fun J=>nf) h
noncomputable def E0(e:Stmt)(k:List Expr->Expr->Pos->Bool):Bool:= @Stmt.casesOn (fun J=>Bool) e (fun J J J J J J J J J J=>false) (fun J J J J J J J J J J=>false) (fun J J J J J J J J J J J=>false) (fun J J=>false) (fun J J=>false) k (fun J J J J J J J=>false) (fun J J J J=>false) (fun J J J J J=>false) (fun J J J J J=>false) (fun J J J J J=>false) (fun J J J J=>false) (fun J J J J=>false) (fun J J J=>false) (fun J J J=>false) (fun J J J=>false) (fun J J J=>false) (fun J J J J J=>false) (fun J J J J J=>false) (fun J J J=>false) (fun J J=>false) (fun J J J J=>false) (fun J J=>false) (fun J J=>false) (fun J J=>false) (fun J=>false) (fun J=>false) (fun J=>false)
theorem D0{P:Stmt->Prop}{e:Stmt}{k:List Expr->Expr->Pos->Bool}(h:E0 e k=true)(f:∀a0 a1 a2,k a0 a1 a2=true->P (.Assign a0 a1 a2)):P e:= @Stmt.casesOn (fun e=>E0 e k=true->P e) e (fun J J J J J J J J J J=>nf) (fun J J J J J J J J J J=>nf) (fun J J J J J J J J J J J=>nf) (fun J J=>nf) (fun J J=>nf) f (fun J J J J J J J=>nf) (fun J J J J=>nf) (fun J J J J J=>nf) (fun J J J J J=>nf) (fun J J J J J=>nf) (fun J J J J=>nf) (fun J J J J=>nf) (fun J J J=>nf) (fun J J J=>nf) (fun J J J=>nf) (fun J J J=>nf) (fun J J J J J=>nf) (fun J J J J J=>nf) (fun J J J=>nf) (fun J J=>nf) (fun J J J J=>nf) (fun J J=>nf) (fun J J=>nf) (fun J J=>nf) (fun J=>nf) (fun J=>nf) (fun J=>nf) h
noncomputable def Gf(e:Stmt)(k:Expr->Operator->Expr->Pos->Bool):Bool:= @Stmt.casesOn (fun J=>Bool) e (fun J J J J J J J J J J=>false) (fun J J J J J J J J J J=>false) (fun J J J J J J J J J J J=>false) (fun J J=>false) (fun J J=>false) (fun J J J=>false) (fun J J J J J J J=>false) k (fun J J J J J=>false) (fun J J J J J=>false) (fun J J J J J=>false) (fun J J J J=>false) (fun J J J J=>false) (fun J J J=>false) (fun J J J=>false) (fun J J J=>false) (fun J J J=>false) (fun J J J J J=>false) (fun J J J J J=>false) (fun J J J=>false) (fun J J=>false) (fun J J J J=>false) (fun J J=>false) (fun J J=>false) (fun J J=>false) (fun J=>false) (fun J=>false) (fun J=>false)
theorem JG{P:Stmt->Prop}{e:Stmt}{k:Expr->Operator->Expr->Pos->Bool}(h:Gf e k=true)(f:∀a0 a1 a2 a3,k a0 a1 a2 a3=true->P (.AugAssign a0 a1 a2 a3)):P e:= @Stmt.casesOn (fun e=>Gf e k=true->P e) e (fun J J J J J J J J J J=>nf) (fun J J J J J J J J J J=>nf) (fun J J J J J J J J J J J=>nf) (fun J J=>nf) (fun J J=>nf) (fun J J J=>nf) (fun J J J J J J J=>nf) f (fun J J J J J=>nf) (fun J J J J J=>nf) (fun J J J J J=>nf) (fun J J J J=>nf) (fun J J J J=>nf) (fun J J J=>nf) (fun J J J=>nf) (fun J J J=>nf) (fun J J J=>nf) (fun J J J J J=>nf) (fun J J J J J=>nf) (fun J J J=>nf) (fun J J=>nf) (fun J J J J=>nf) (fun J J=>nf) (fun J J=>nf) (fun J J=>nf) (fun J=>nf) (fun J=>nf) (fun J=>nf) h
noncomputable def PX(e:Stmt)(k:Expr->Expr->List Stmt->List Stmt->Pos->Bool):Bool:= @Stmt.casesOn (fun J=>Bool) e (fun J J J J J J J J J J=>false) (fun J J J J J J J J J J=>false) (fun J J J J J J J J J J J=>false) (fun J J=>false) (fun J J=>false) (fun J J J=>false) (fun J J J J J J J=>false) (fun J J J J=>false) (fun J J J J J=>false) k (fun J J J J J=>false) (fun J J J J=>false) (fun J J J J=>false) (fun J J J=>false) (fun J J J=>false) (fun J J J=>false) (fun J J J=>false) (fun J J J J J=>false) (fun J J J J J=>false) (fun J J J=>false) (fun J J=>false) (fun J J J J=>false) (fun J J=>false) (fun J J=>false) (fun J J=>false) (fun J=>false) (fun J=>false) (fun J=>false)
theorem HW{P:Stmt->Prop}{e:Stmt}{k:Expr->Expr->List Stmt->List Stmt->Pos->Bool}(h:PX e k=true)(f:∀a0 a1 a2 a3 a4,k a0 a1 a2 a3 a4=true->P (.For a0 a1 a2 a3 a4)):P e:= @Stmt.casesOn (fun e=>PX e k=true->P e) e (fun J J J J J J J J J J=>nf) (fun J J J J J J J J J J=>nf) (fun J J J J J J J J J J J=>nf) (fun J J=>nf) (fun J J=>nf) (fun J J J=>nf) (fun J J J J J J J=>nf) (fun J J J J=>nf) (fun J J J J J=>nf) f (fun J J J J J=>nf) (fun J J J J=>nf) (fun J J J J=>nf) (fun J J J=>nf) (fun J J J=>nf) (fun J J J=>nf) (fun J J J=>nf) (fun J J J J J=>nf) (fun J J J J J=>nf) (fun J J J=>nf) (fun J J=>nf) (fun J J J J=>nf) (fun J J=>nf) (fun J J=>nf) (fun J J=>nf) (fun J=>nf) (fun J=>nf) (fun J=>nf) h
noncomputable def eJ(e:Stmt)(k:Expr->List Stmt->List Stmt->Pos->Bool):Bool:= @Stmt.casesOn (fun J=>Bool) e (fun J J J J J J J J J J=>false) (fun J J J J J J J J J J=>false) (fun J J J J J J J J J J J=>false) (fun J J=>false) (fun J J=>false) (fun J J J=>false) (fun J J J J J J J=>false) (fun J J J J=>false) (fun J J J J J=>false) (fun J J J J J=>false) (fun J J J J J=>false) (fun J J J J=>false) k (fun J J J=>false) (fun J J J=>false) (fun J J J=>false) (fun J J J=>false) (fun J J J J J=>false) (fun J J J J J=>false) (fun J J J=>false) (fun J J=>false) (fun J J J J=>false) (fun J J=>false) (fun J J=>false) (fun J J=>false) (fun J=>false) (fun J=>false) (fun J=>false)
theorem WN{P:Stmt->Prop}{e:Stmt}{k:Expr->List Stmt->List Stmt->Pos->Bool}(h:eJ e k=true)(f:∀a0 a1 a2 a3,k a0 a1 a2 a3=true->P (.If a0 a1 a2 a3)):P e:= @Stmt.casesOn (fun e=>eJ e k=true->P e) e (fun J J J J J J J J J J=>nf) (fun J J J J J J J J J J=>nf) (fun J J J J J J J J J J J=>nf) (fun J J=>nf) (fun J J=>nf) (fun J J J=>nf) (fun J J J J J J J=>nf) (fun J J J J=>nf) (fun J J J J J=>nf) (fun J J J J J=>nf) (fun J J J J J=>nf) (fun J J J J=>nf) f (fun J J J=>nf) (fun J J J=>nf) (fun J J J=>nf) (fun J J J=>nf) (fun J J J J J=>nf) (fun J J J J J=>nf) (fun J J J=>nf) (fun J J=>nf) (fun J J J J=>nf) (fun J J=>nf) (fun J J=>nf) (fun J J=>nf) (fun J=>nf) (fun J=>nf) (fun J=>nf) h
noncomputable def Og(e:Stmt)(k:Option Expr->Option Expr->Pos->Bool):Bool:= @Stmt.casesOn (fun J=>Bool) e (fun J J J J J J J J J J=>false) (fun J J J J J J J J J J=>false) (fun J J J J J J J J J J J=>false) (fun J J=>false) (fun J J=>false) (fun J J J=>false) (fun J J J J J J J=>false) (fun J J J J=>false) (fun J J J J J=>false) (fun J J J J J=>false) (fun J J J J J=>false) (fun J J J J=>false) (fun J J J J=>false) (fun J J J=>false) (fun J J J=>false) (fun J J J=>false) k (fun J J J J J=>false) (fun J J J J J=>false) (fun J J J=>false) (fun J J=>false) (fun J J J J=>false) (fun J J=>false) (fun J J=>false) (fun J J=>false) (fun J=>false) (fun J=>false) (fun J=>false)
theorem PZ{P:Stmt->Prop}{e:Stmt}{k:Option Expr->Option Expr->Pos->Bool}(h:Og e k=true)(f:∀a0 a1 a2,k a0 a1 a2=true->P (.Raise a0 a1 a2)):P e:= @Stmt.casesOn (fun e=>Og e k=true->P e) e (fun J J J J J J J J J J=>nf) (fun J J J J J J J J J J=>nf) (fun J J J J J J J J J J J=>nf) (fun J J=>nf) (fun J J=>nf) (fun J J J=>nf) (fun J J J J J J J=>nf) (fun J J J J=>nf) (fun J J J J J=>nf) (fun J J J J J=>nf) (fun J J J J J=>nf) (fun J J J J=>nf) (fun J J J J=>nf) (fun J J J=>nf) (fun J J J=>nf) (fun J J J=>nf) f (fun J J J J J=>nf) (fun J J J J J=>nf) (fun J J J=>nf) (fun J J=>nf) (fun J J J J=>nf) (fun J J=>nf) (fun J J=>nf) (fun J J=>nf) (fun J=>nf) (fun J=>nf) (fun J=>nf) h
noncomputable def WW(e:Stmt)(k:List Stmt->List ExceptHandler->List Stmt->List Stmt->Pos->Bool):Bool:= @Stmt.casesOn (fun J=>Bool) e (fun J J J J J J J J J J=>false) (fun J J J J J J J J J J=>false) (fun J J J J J J J J J J J=>false) (fun J J=>false) (fun J J=>false) (fun J J J=>false) (fun J J J J J J J=>false) (fun J J J J=>false) (fun J J J J J=>false) (fun J J J J J=>false) (fun J J J J J=>false) (fun J J J J=>false) (fun J J J J=>false) (fun J J J=>false) (fun J J J=>false) (fun J J J=>false) (fun J J J=>false) k (fun J J J J J=>false) (fun J J J=>false) (fun J J=>false) (fun J J J J=>false) (fun J J=>false) (fun J J=>false) (fun J J=>false) (fun J=>false) (fun J=>false) (fun J=>false)
theorem UR{P:Stmt->Prop}{e:Stmt}{k:List Stmt->List ExceptHandler->List Stmt->List Stmt->Pos->Bool}(h:WW e k=true)(f:∀a0 a1 a2 a3 a4,k a0 a1 a2 a3 a4=true->P (.Try a0 a1 a2 a3 a4)):P e:= @Stmt.casesOn (fun e=>WW e k=true->P e) e (fun J J J J J J J J J J=>nf) (fun J J J J J J J J J J=>nf) (fun J J J J J J J J J J J=>nf) (fun J J=>nf) (fun J J=>nf) (fun J J J=>nf) (fun J J J J J J J=>nf) (fun J J J J=>nf) (fun J J J J J=>nf) (fun J J J J J=>nf) (fun J J J J J=>nf) (fun J J J J=>nf) (fun J J J J=>nf) (fun J J J=>nf) (fun J J J=>nf) (fun J J J=>nf) (fun J J J=>nf) f (fun J J J J J=>nf) (fun J J J=>nf) (fun J J=>nf) (fun J J J J=>nf) (fun J J=>nf) (fun J J=>nf) (fun J J=>nf) (fun J=>nf) (fun J=>nf) (fun J=>nf) h
noncomputable def Ta(e:Stmt)(k:Expr->Pos->Bool):Bool:= @Stmt.casesOn (fun J=>Bool) e (fun J J J J J J J J J J=>false) (fun J J J J J J J J J J=>false) (fun J J J J J J J J J J J=>false) (fun J J=>false) (fun J J=>false) (fun J J J=>false) (fun J J J J J J J=>false) (fun J J J J=>false) (fun J J J J J=>false) (fun J J J J J=>false) (fun J J J J J=>false) (fun J J J J=>false) (fun J J J J=>false) (fun J J J=>false) (fun J J J=>false) (fun J J J=>false) (fun J J J=>false) (fun J J J J J=>false) (fun J J J J J=>false) (fun J J J=>false) (fun J J=>false) (fun J J J J=>false) (fun J J=>false) (fun J J=>false) k (fun J=>false) (fun J=>false) (fun J=>false)
theorem QT{P:Stmt->Prop}{e:Stmt}{k:Expr->Pos->Bool}(h:Ta e k=true)(f:∀a0 a1,k a0 a1=true->P (.Expr a0 a1)):P e:= @Stmt.casesOn (fun e=>Ta e k=true->P e) e (fun J J J J J J J J J J=>nf) (fun J J J J J J J J J J=>nf) (fun J J J J J J J J J J J=>nf) (fun J J=>nf) (fun J J=>nf) (fun J J J=>nf) (fun J J J J J J J=>nf) (fun J J J J=>nf) (fun J J J J J=>nf) (fun J J J J J=>nf) (fun J J J J J=>nf) (fun J J J J=>nf) (fun J J J J=>nf) (fun J J J=>nf) (fun J J J=>nf) (fun J J J=>nf) (fun J J J=>nf) (fun J J J J J=>nf) (fun J J J J J=>nf) (fun J J J=>nf) (fun J J=>nf) (fun J J J J=>nf) (fun J J=>nf) (fun J J=>nf) f (fun J=>nf) (fun J=>nf) (fun J=>nf) h
theorem e0{α:Type}{P:List α->Prop}{l:List α}(h:l.isEmpty=true)(p:P []):P l:=by
 cases l with
 | nil=>exact p
 | cons=>exact nf h
noncomputable def x1{α:Type}(l:List α)(k:α->Bool):Bool:= @List.casesOn α (fun J=>Bool) l false fun a r=>r.isEmpty&&k a
theorem Db{α:Type}{P:List α->Prop}{l:List α}{k:α->Bool}(h:x1 l k=true)(f:∀a,k a=true->P [a]):P l:=
 @List.casesOn α (fun l=>x1 l k=true->P l) l nf (fun a r h=>e0 (P:=fun r=>P (a::r)) (Ag h) (f a (Ak h))) h
noncomputable def x2{α:Type}(l:List α)(k:α->α->Bool):Bool:= @List.casesOn α (fun J=>Bool) l false fun a r=>x1 r (k a)
theorem JL{α:Type}{P:List α->Prop}{l:List α}{k:α->α->Bool}(h:x2 l k=true)(f:∀a b,k a b=true->P [a,b]):P l:=
 @List.casesOn α (fun l=>x2 l k=true->P l) l nf (fun a r h=>Db (P:=fun r=>P (a::r)) h (f a)) h
noncomputable def xo{α:Type}(o:Option α)(k:α->Bool):Bool:= @Option.casesOn α (fun J=>Bool) o false k
theorem FQ{α:Type}{P:Option α->Prop}{o:Option α}{k:α->Bool}(h:xo o k=true)(f:∀a,k a=true->P (some a)):P o:=
 @Option.casesOn α (fun o=>xo o k=true->P o) o nf f h
theorem HB{α:Type}{P:Option α->Prop}{o:Option α}(h:o.isNone=true)(p:P none):P o:=by
 cases o with
 | none=>exact p
 | some=>exact nf h
section
variable{P:Expr->Prop}{e:Expr}{nm:Str}
noncomputable def xG(ns:Dm)(e:Expr)(nm:Str):Bool:=Dp e fun x J=>x==nm&&Dl ns nm
theorem O8(h:xG ns e nm=true)(f:∀p,Dl ns nm=true->P (.Name nm p)):P e:=BH h fun x p h=>bq (P:=fun x=>P (.Name x p)) (Ag h) (f p (Ak h))
noncomputable def xC(ns:Dm)(e:Expr)(nm:Str)(k:List Expr->Bool):Bool:=MM e fun g es kws J=>kws.isEmpty&&xG ns g nm&&k es
theorem JY{k:List Expr->Bool}(h:xC ns e nm k=true)(f:∀p es q,Dl ns nm=true->k es=true->P (.Call (.Name nm p) es [] q)):P e:=
 Ir h fun g es kws q h=>e0 (P:=fun kws=>P (.Call g es kws q)) (Ag (Ag h)) (O8 (P:=fun g=>P (.Call g es [] q)) (Ak (Ag h)) fun p hg=>f p es q hg (Ak h))
noncomputable def WK(ns:Dm)(e:Expr)(nm:Str)(k:Expr->Bool):Bool:=xC ns e nm fun es=>x1 es fun x=>Ar x&&k x
theorem FY{k:Expr->Bool}(h:WK ns e nm k=true)(f:∀p x q,Dl ns nm=true->Ar x=true->k x=true->P (.Call (.Name nm p) [x] [] q)):P e:=
 JY h fun p es q hg h=>Db (P:=fun es=>P (.Call (.Name nm p) es [] q)) h fun x h=>f p x q hg (Ag h) (Ak h)
noncomputable def ZU(ns:Dm)(e:Expr)(nm:Str)(k:Expr->Expr->Bool):Bool:=xC ns e nm fun es=>x2 es fun x y=>Ar x&&k x y
theorem Ks{k:Expr->Expr->Bool}(h:ZU ns e nm k=true)(f:∀p x y q,Dl ns nm=true->Ar x=true->k x y=true->P (.Call (.Name nm p) [x,y] [] q)):P e:=
 JY h fun p es q hg h=>JL (P:=fun es=>P (.Call (.Name nm p) es [] q)) h fun x y h=>f p x y q hg (Ag h) (Ak h)
noncomputable def xM(e:Expr)(nm:Str)(k:Expr->List Expr->Bool):Bool:=MM e fun g es kws p=>kws.isEmpty&&Dt g fun x y ap=>y==nm&&A0 x&&ap.endLine==p.line&&k x es
theorem QJ{k:Expr->List Expr->Bool}(h:xM e nm k=true)(f:∀x ap es p,A0 x=true->(ap.endLine==p.line)=true->k x es=true->P (.Call (.Attribute x nm ap) es [] p)):P e:=
 Ir h fun g es kws p h=>e0 (P:=fun kws=>P (.Call g es kws p)) (Ag h) (DC (P:=fun g=>P (.Call g es [] p)) (Ak h) fun x y ap h=>bq (P:=fun y=>P (.Call (.Attribute x y ap) es [] p)) (Ag (Ag (Ag h))) (f x ap es p (Ak (Ag (Ag h))) (Ak (Ag h)) (Ak h)))
noncomputable def YS(e:Expr)(nm:Str)(k:Expr->Expr->Bool):Bool:=xM e nm fun x es=>x1 es fun y=>Ar y&&k x y
theorem I6{k:Expr->Expr->Bool}(h:YS e nm k=true)(f:∀x ap y p,A0 x=true->(ap.endLine==p.line)=true->Ar y=true->k x y=true->P (.Call (.Attribute x nm ap) [y] [] p)):P e:=
 QJ h fun x ap es p h1 h2 h=>Db (P:=fun es=>P (.Call (.Attribute x nm ap) es [] p)) h fun y h=>f x ap y p h1 h2 (Ag h) (Ak h)
noncomputable def bB(e:Expr)(nm:Str)(k:Expr->Bool):Bool:=xM e nm fun x es=>es.isEmpty&&k x
theorem NS{k:Expr->Bool}(h:bB e nm k=true)(f:∀x ap p,A0 x=true->(ap.endLine==p.line)=true->k x=true->P (.Call (.Attribute x nm ap) [] [] p)):P e:=
 QJ h fun x ap es p h1 h2 h=>e0 (P:=fun es=>P (.Call (.Attribute x nm ap) es [] p)) (Ag h) (f x ap p h1 h2 (Ak h))
noncomputable def Qp(e:Expr)(k:Expr->CmpOp->Expr->Bool):Bool:=Iq e fun l os rs J=>x1 os fun o=>x1 rs fun r=>k l o r
theorem H7{k:Expr->CmpOp->Expr->Bool}(h:Qp e k=true)(f:∀l o r p,k l o r=true->P (.Compare l [o] [r] p)):P e:=
 MA h fun l os rs p h=>Db (P:=fun os=>P (.Compare l os rs p)) h fun o h=>Db (P:=fun rs=>P (.Compare l [o] rs p)) h fun r h=>f l o r p h
noncomputable def xK(e:Expr)(c:Const):Bool:=FF e fun d J J=>d==c
theorem ML{c:Const}(h:xK e c=true)(f:∀k p,P (.Constant c k p)):P e:=GJ h fun d k p h=>bq (P:=fun d=>P (.Constant d k p)) h (f k p)
noncomputable def Q3(gs:List Comprehension)(k:Str->Expr->List Expr->Bool):Bool:=x1 gs fun g=>g.is_async==0&&Dp g.target fun x J=>k x g.iter g.ifs
theorem Ie{Q:List Comprehension->Prop}{gs:List Comprehension}{k:Str->Expr->List Expr->Bool}(h:Q3 gs k=true)(f:∀x p it fs,k x it fs=true->Q [⟨.Name x p,it,fs,0⟩]):Q gs:=
 Db h fun g h=>by
  obtain⟨t,it,fs,a⟩:=g
  exact bq (P:=fun a=>Q [⟨t,it,fs,a⟩]) (Ag h) (BH (P:=fun t=>Q [⟨t,it,fs,0⟩]) (Ak h) fun x p h=>f x p it fs h)
noncomputable def xB(o:BoolOp)(e:Expr)(k:Expr->Expr->Bool):Bool:=KQ e fun op es p=>op==o&& @List.casesOn _ (fun J=>Bool) es false fun x r=> @List.casesOn _ (fun J=>Bool) r false fun y r=> @List.casesOn _ (fun J=>Bool) r (k x y) fun z r=>k x (.BoolOp o (y::z::r) p)
theorem VY{o:BoolOp}{k:Expr->Expr->Bool}(h:xB o e k=true)(f:∀x y p,k x y=true->P (.BoolOp o [x,y] p))(g:∀x y z r p,k x (.BoolOp o (y::z::r) p)=true->P (.BoolOp o (x::y::z::r) p)):P e:=
 NZ h fun op es p h=>bq (P:=fun op=>P (.BoolOp op es p)) (Ag h)<|by
  have h:=Ak h
  cases es with
  | nil=>exact nf h
  | cons x r=>cases r with
   | nil=>exact nf h
   | cons y r=>cases r with
    | nil=>exact f x y p h
    | cons z r=>exact g x y z r p h
end
noncomputable def KY:List Nat->List Expr->Bool
 | [],es=>es.isEmpty
 | k::r,es=> @List.casesOn _ (fun J=>Bool) es false fun e es=>xK e (.str (wd k))&&KY r es
noncomputable def SR(ns:Dm)(Γ:List Str)(params:Arguments)(sc:Scope):Bool:=
 params.posonlyargs.isEmpty&&params.args.isEmpty&&params.vararg.isNone&&params.kwonlyargs.isEmpty&&params.kw_defaults.isEmpty&&params.kwarg.isNone&&params.defaults.isEmpty&&
 sc.kind== .function&& !sc.isCoroutine&& !sc.isGenerator&&(sc.names.all fun p=>p.2== .globalImplicit||p.2== .free&&ns.lookup p.1==some .cell&&Γ.contains p.1)
noncomputable def Eo(t:Bool)(e:Expr):Bool:= !t||(Qp e (fun J J J=>true)||Hc e)
noncomputable def Rg:Fn->Bool
 | .AU=>true
 | _=>false
mutual
noncomputable def B2(t k:Bool)(ns:Dm)(Γ:List Str):ME Fn->Expr->Bool
 | .O i,e=>Eo t e&&Dp e fun nm J=>Γ[i]? ==some nm&&DZ ns nm
 | .cst v,e=>Eo t e&&FF e fun c J J=>Wp v c
 | .usub j,e=>Eo t e&&Gv e fun op x J=>op== .USub&&xK x (.int (j:Int))
 | .gmax,e=>Eo t e&&xG ns e "MOST_LENGTH"
 | .attr m a,e=>Eo t e&&Dt e fun o nm J=>nm==wd a&&(CV.contains a&&A0 o&&B2 false k ns Γ m o)
 | .idx m i,e=>Eo t e&&DA e fun o sl J=>B2 false k ns Γ m o&&B2 false k ns Γ i sl
 | .cutTo m i,e=>Eo t e&&DA e fun o sl J=>Dp o (fun J J=>true)&&KW sl fun a b c J=>a.isNone&&c.isNone&&xo b fun j=>B2 false k ns Γ m o&&B2 false k ns Γ i j
 | .cutFrom m i,e=>Eo t e&&DA e fun o sl J=>Dp o (fun J J=>true)&&KW sl fun a b c J=>b.isNone&&c.isNone&&xo a fun j=>B2 false k ns Γ m o&&B2 false k ns Γ i j
 | .bin op a b,e=>Eo t e&&Nw e fun l o r J=>o==QV op&&(B2 false k ns Γ a l&&B2 false k ns Γ b r)
 | .cmp op a b,e=>Eo t e&&Qp e fun l o r=>o==Mr op&&(!behindInMarks (Mr op) r&&(B2 false k ns Γ a l&&B2 false k ns Γ b r))
 | .isNone neg m,e=>Eo t e&&Qp e fun l o r=>o==(if neg then .IsNot else .Is)&&(xK r .none&&B2 false k ns Γ m l)
 | .inW neg m ws,e=>Eo t e&&Qp e fun l o r=>o==(if neg then .NotIn else .In)&&Hf r fun es J J=>Nat.ble ws.length 100&&KY ws es&&B2 false k ns Γ m l
 | .and2 a b,e=>xB .And e fun x y=>B2 t k ns Γ a x&&B2 t k ns Γ b y
 | .or2 a b,e=>xB .Or e fun x y=>B2 t k ns Γ a x&&B2 t k ns Γ b y
 | .not m,e=>Gv e fun op x J=>op== .Not&&B2 t k ns Γ m x
 | .ite c a b,e=>Nj e fun ec ea eb J=>B2 true k ns Γ c ec&&(B2 t k ns Γ a ea&&B2 t k ns Γ b eb)
 | .lst ms,e=>Eo t e&&RD e fun es J=>es.all Ar&&NB k ns Γ ms es
 | .tup ms,e=>Eo t e&&Hf e fun es J J=>es.all Ar&&NB k ns Γ ms es
 | .dct0,e=>Eo t e&&MQ e fun a b J=>a.isEmpty&&b.isEmpty
 | .dct0I,e=>Eo t e&&MQ e fun a b J=>a.isEmpty&&b.isEmpty
 | .dct1 j m,e=>Eo t e&&MQ e fun a b J=>x1 a fun o=>xo o fun c=>xK c (.str (wd j))&&x1 b fun x=>B2 false k ns Γ m x
 | .call f ms,e=>Eo t e&&xC ns e (Rk f) fun es=> !Lc f&& !Pm f&&(es.all Ar&&NB k ns Γ ms es)
 | .mk c ms,e=>Eo t e&&xC ns e (Str.ofString (FH c)) fun es=>es.all Ar&&NB k ns Γ ms es
 | .len m,e=>Eo t e&&WK ns e "len" fun x=>B2 false k ns Γ m x
 | .listOf m,e=>Eo t e&&WK ns e "list" fun x=>B2 false k ns Γ m x
 | .dictOf m,e=>Eo t e&&WK ns e "dict" fun x=>B2 false k ns Γ m x
 | .strOf m,e=>Eo t e&&WK ns e "str" fun x=>B2 false k ns Γ m x
 | .max2 a b,e=>Eo t e&&ZU ns e "max" fun x y=>Ar y&&(B2 false k ns Γ a x&&B2 false k ns Γ b y)
 | .isV m,e=>Eo t e&&ZU ns e "isinstance" fun x y=>xG ns y "Vector"&&B2 false k ns Γ m x
 | .isT m ty,e=>Eo t e&&ZU ns e "isinstance" fun x y=>xG ns y (Str.ofString (Hs ty))&&B2 false k ns Γ m x
 | .append o m,e=>Eo t e&&YS e "append" fun x y=>B2 false k ns Γ o x&&B2 false k ns Γ m y
 | .extend o m,e=>Eo t e&&YS e "extend" fun x y=>B2 false k ns Γ o x&&B2 false k ns Γ m y
 | .index o m,e=>Eo t e&&YS e "index" fun x y=>B2 false k ns Γ o x&&B2 false k ns Γ m y
 | .get1 o m,e=>Eo t e&&YS e "get" fun x y=>B2 false k ns Γ o x&&B2 false k ns Γ m y
 | .starts o m,e=>Eo t e&&YS e "startswith" fun x y=>B2 false k ns Γ o x&&B2 false k ns Γ m y
 | .get2 o m d,e=>Eo t e&&xM e "get" fun x es=>x2 es fun y z=>Ar y&&Ar z&&(B2 false k ns Γ o x&&(B2 false k ns Γ m y&&B2 false k ns Γ d z))
 | .pop o,e=>Eo t e&&bB e "pop" fun x=>B2 false k ns Γ o x
 | .reverse o,e=>Eo t e&&bB e "reverse" fun x=>B2 false k ns Γ o x
 | .mcall o f,e=>Eo t e&&(Rg f&&bB e "copy" fun x=>B2 false k ns Γ o x)
 | .comp m it,e=>Eo t e&&DU e fun elt gs sc J=>Q3 gs fun x iter fs=>fs.isEmpty&&Hu ns Γ sc x&&(EM iter&&B2 false k ns Γ it iter&&B2 false false (BU ns sc.names) (Γ++[x]) m elt)
 | .compR m it,e=>Eo t e&&DU e fun elt gs sc J=>Q3 gs fun x iter fs=>fs.isEmpty&&Hu ns Γ sc x&&WK ns iter "range" fun a=>B2 false k ns Γ it a&&B2 false false (BU ns sc.names) (Γ++[x]) m elt
 | .compIf m c it,e=>Eo t e&&DU e fun elt gs sc J=>Q3 gs fun x iter fs=>Hu ns Γ sc x&&x1 fs fun t=>WK ns iter "range" fun a=>B2 false k ns Γ it a&&(B2 false false (BU ns sc.names) (Γ++[x]) m elt&&B2 true false (BU ns sc.names) (Γ++[x]) c t)
 | .dcomp m it,e=>Eo t e&&FI e fun ke vx gs sc J=>Q3 gs fun x iter fs=>fs.isEmpty&&Hu ns Γ sc x&&Dp ke fun y J=>y==x&&(EM iter&&DZ (BU ns sc.names) x&&B2 false k ns Γ it iter&&B2 false false (BU ns sc.names) (Γ++[x]) m vx)
 | .kept m,e=>Eo t e&&(k&&xC ns e "_law_kept" fun es=>x1 es fun l=>KE l fun params body sc J=>SR ns Γ params sc&&B2 false false sc.names Γ m body)
 | .bad,_=>true
noncomputable def NB(k:Bool)(ns:Dm)(Γ:List Str):List (ME Fn)->List Expr->Bool
 | [],es=>es.isEmpty
 | m::ms,es=> @List.casesOn _ (fun J=>Bool) es false fun e r=>B2 false k ns Γ m e&&NB k ns Γ ms r
end
noncomputable def IU(U:Un)(xc:Value)(C:Ja Fn)(A:Around)(X:Fx)(env:PySem.Env)(Γ:List Str)(ns:Dm)(n:Nat):Prop:=
 ∀(m:ME Fn) (params:Arguments) (body:Expr) (sc:Scope) (lp np pos:Pos),Dl ns "_law_kept"=true->SR ns Γ params sc=true->
  (∀A' X' Ai,Cx U A' X' Ai n->DK A' n 1->AJ X' Ai Ai sc.names->SE U xc C A' X' Ai Γ m body)->
  SE U xc C A X env Γ (.kept m) (.Call (.Name "_law_kept" np) [.Lambda params body sc lp] [] pos)
structure Al(U:Un)(xc:Value)(fa:Fn->Addr)(n:Nat)(C:Ja Fn):Prop where
 uf:UF U
 ug:UG U
 ub:UB U
 uc:UC U fa
 um:UM U fa
 bg:Tf C.bg
 Aa:C.Aa=U.Aa
 init:C.initOf=initOf
 gmx:∃t,nsIn U.K mainGlobals "MOST_LENGTH"=some (some (.int 1000000 t))
 ok:∀pin,Hm { U with pin:=pin} xc fa n C.call
 ue:∃Ce D fI cd,xc=.ref Ce/\UE U Ce D fI cd
theorem UF.pin(h:UF U){a:Addr}{o:Obj}:UF (U.pinAt a o):=⟨fun c x hx=>let⟨p,q,r⟩:=h.attr c x hx;⟨p,q,r⟩,h.dict,h.seta,h.over⟩
theorem UG.pin(h:UG U){a:Addr}{o:Obj}:UG (U.pinAt a o):=by cases h;constructor<;>assumption
theorem UB.pin(h:UB U){a:Addr}{o:Obj}:UB (U.pinAt a o):=⟨h.blt,h.cls⟩
theorem UC.pin(h:UC U fa){a:Addr}{o:Obj}:UC (U.pinAt a o) fa:=⟨h.glo,h.keep⟩
theorem UM.pin(h:UM U fa){a:Addr}{o:Obj}:UM (U.pinAt a o) fa:=⟨h.copyG,h.copyF,h.isFn,h.makes,h.init,h.high,h.keepC⟩
theorem UE.pin{Ce D fI:Addr}{cd:ClassData}(h:UE U Ce D fI cd){a:Addr}{o:Obj}:UE (U.pinAt a o) Ce D fI cd:=by cases h;constructor<;>assumption
theorem Al.pin(h:Al U xc fa n C){a:Addr}{o:Obj}:Al (U.pinAt a o) xc fa n C:=
 ⟨h.uf.pin,h.ug.pin,h.ub.pin,h.uc.pin,h.um.pin,h.bg,h.Aa,h.init,h.gmx,fun p=>h.ok p,let⟨a,b,c,d,e,f⟩:=h.ue;⟨a,b,c,d,e,f.pin⟩⟩
theorem Al.call(h:Al U xc fa n C):Hm U xc fa n C.call:=h.ok U.pin
theorem N7{M:Model}{l r:Expr}{o:CmpOp}{Q:Bool->Shared->Prop}(h:wpAny M A (eval (.Compare l [o] [r] pos) env) (fun c s=>wpAny M A (truthy c) Q E s) E s):wpAny M A (isTrue (.Compare l [o] [r] pos) env (eval (.Compare l [o] [r] pos) env)) Q E s:=by
 have e:isTrue (.Compare l [o] [r] pos) env (eval (.Compare l [o] [r] pos) env)=(eval (.Compare l [o] [r] pos) env >>= fun c=>holding [c] (truthy c)):=by
  rw[isTrue_Compare1,eval_Compare1]
  simp only [bind_assoc]
 rw[e]
 exact As (wpAny_mono h (fun c s' hc=>wpAny_holding hc) fun J J e=>e)
theorem V2{t:Bool}{m:ME Fn}{e:Expr}(ht:Eo t e=true)(h:SE U xc C A X env Γ m e):SE U xc C A X env Γ m e/\(t=true->ST U xc C A X env Γ m e):=by
 refine⟨h,fun et=> ?_⟩
 subst et
 rcases(Bool.or_eq_true _ _).mp ht with ht | ht
 .exact nf ht
 .rcases (Bool.or_eq_true _ _).mp ht with ht | ht
  .refine H7 (P:=fun e=>SE U xc C A X env Γ m e->ST U xc C A X env Γ m e) ht (fun l o r p J h=> ?_) h
   intro ρ H s vs Q E x eo hp
   refine N7 (wpAny_mono (h ρ H s vs _ E x eo (IQ hp)) (fun v s' hv=> ?_) fun J J e=>e)
   obtain⟨t,rfl,hq⟩:=hv
   exact wpAny_truthy_bool hq
  .exact S9 ht h
theorem J0:∀{ws:List Nat} {es:List Expr},KY ws es=true->OB U xc C A X env Γ (ws.map fun k=> .cst (.w k)) es
 | [],_,h=>e0 (P:=OB U xc C A X env Γ []) h KT
 | _::_,[],h=>nf h
 | k::r,e::es,h=>ML (P:=fun e=>OB U xc C A X env Γ (.cst (.w k)::r.map fun k=> .cst (.w k)) (e::es)) (Ag h) fun j p=>Jr rfl (S7 (beq_iff_eq.mpr rfl)) (J0 (Ak h))
noncomputable def G7(e:Expr)(env:PySem.Env):Option (Value->Sem Unit)->Sem Value:=match e with
 | .ListComp elt gens sc p=>Ej sc gens p (.ListComp elt gens sc p) (newList []) env
 | .DictComp kx vx gens sc p=>Ej sc gens p (.DictComp kx vx gens sc p) newDict env
 | _=>fun J=>pure .none
structure Ge where
 U:Un
 xc:Value
 fa:Fn->Addr
 n:Nat
 C:Ja Fn
 A:Around
 X:Fx
 Ad:PySem.Env
 env:PySem.Env
structure Pk(k:Bool)(ns:Dm)(Γ:List Str)(G:Ge):Prop where
 al:Al G.U G.xc G.fa G.n G.C
 cx:Cx G.U G.A G.X G.Ad G.n
 rm:DK G.A G.n 1
 ek:AJ G.X G.Ad G.env ns
 kr:k=true->IU G.U G.xc G.C G.A G.X G.env Γ ns G.n
noncomputable abbrev Wz(G:Ge)(Γ:List Str)(m:ME Fn)(e:Expr):Prop:=SE G.U G.xc G.C G.A G.X G.env Γ m e
noncomputable abbrev gF(G:Ge)(Γ:List Str)(m:ME Fn)(e:Expr):Prop:=ST G.U G.xc G.C G.A G.X G.env Γ m e
noncomputable def WB(k:Bool)(ns:Dm)(Γ:List Str)(t:Bool)(m:ME Fn)(e:Expr):Prop:=∀G:Ge,Pk k ns Γ G->Wz G Γ m e/\(t=true->gF G Γ m e)
noncomputable def A1(k:Bool)(ns:Dm)(Γ:List Str)(m:ME Fn)(e:Expr):Prop:=∀G:Ge,Pk k ns Γ G->Wz G Γ m e
noncomputable def E9(k:Bool)(ns:Dm)(Γ:List Str)(m:ME Fn)(e:Expr):Prop:=∀G:Ge,Pk k ns Γ G->Tw G.U G.xc G.C G.A G.X G.env Γ m (G7 e G.env)/\Wz G Γ m e
noncomputable abbrev AV(m:ME Fn):Prop:=∀(t k:Bool) (ns:Dm) (Γ:List Str) (e:Expr),B2 t k ns Γ m e=true->WB k ns Γ t m e
noncomputable def dP(ms:List (ME Fn)):Prop:=∀(k:Bool) (ns:Dm) (Γ:List Str) (es:List Expr),es.all Ar=true->NB k ns Γ ms es=true->∀G:Ge,Pk k ns Γ G->OB G.U G.xc G.C G.A G.X G.env Γ ms es
theorem BK{m:ME Fn}(h:AV m){k:Bool}{ns:Dm}{Γ:List Str}{e:Expr}(o:B2 false k ns Γ m e=true){G:Ge}(g:Pk k ns Γ G):Wz G Γ m e:=(h _ _ _ _ _ o G g).1
theorem pl{k t:Bool}{ns:Dm}{Γ:List Str}{m:ME Fn}{e:Expr}{b:Bool}(h:(Eo t e&&b)=true)(f:b=true->A1 k ns Γ m e):WB k ns Γ t m e:=fun G g=>V2 (Ag h) (f (Ak h) G g)
theorem bI{k t:Bool}{ns:Dm}{Γ:List Str}{m:ME Fn}{e:Expr}(h:Eo t e=true)(f:E9 k ns Γ m e):WB k ns Γ t m e:=fun G g=>V2 h (f G g).2
theorem NR{elt:Expr}{gens:List Comprehension}{sc:Scope}{m:ME Fn}(h:Tw U xc C A X env Γ m (Ej sc gens pos (.ListComp elt gens sc pos) (newList []) env)):Tw U xc C A X env Γ m (G7 (.ListComp elt gens sc pos) env)/\SE U xc C A X env Γ m (.ListComp elt gens sc pos):=by
 refine⟨h,?_⟩
 intro ρ H s vs Q E x eo hp
 rw[eval_ListComp]
 exact h ρ H s vs none Q Q E x eo hp fun J J J J=>My
theorem YE{kx vx:Expr}{gens:List Comprehension}{sc:Scope}{m:ME Fn}(h:Tw U xc C A X env Γ m (Ej sc gens pos (.DictComp kx vx gens sc pos) newDict env)):Tw U xc C A X env Γ m (G7 (.DictComp kx vx gens sc pos) env)/\SE U xc C A X env Γ m (.DictComp kx vx gens sc pos):=by
 refine⟨h,?_⟩
 intro ρ H s vs Q E x eo hp
 rw[arm_eval_DictComp]
 exact h ρ H s vs none Q Q E x eo hp fun J J J J=>My
theorem Pk.at{k:Bool}{ns ns':Dm}{Γ Γ':List Str}{G:Ge}(g:Pk k ns Γ G){X':Fx}{Ai:PySem.Env}(cx:Cx G.U G.A X' G.Ad G.n)(ek:AJ X' G.Ad Ai ns'):Pk false ns' Γ' { G with X:=X',env:=Ai}:=⟨g.al,cx,g.rm,ek,fun q=>nf q⟩
theorem OO{k t:Bool}{ns:Dm}{Γ:List Str}{m it:ME Fn}{e:Expr}(hm:AV m)(hi:AV it)(h:B2 t k ns Γ (.comp m it) e=true):E9 k ns Γ (.comp m it) e:=
 DO (Ak h) fun elt gs sc p h=>Ie (Q:=fun gs=>E9 k ns Γ (.comp m it) (.ListComp elt gs sc p)) h fun x px iter fs h=>e0 (P:=fun fs=>E9 k ns Γ (.comp m it) (.ListComp elt [⟨.Name x px,iter,fs,0⟩] sc p)) (Ag (Ag h)) fun G g=>
  NR (Nb g.cx g.ek (Fy (Ak (Ag h))) (Ag (Ag (Ak h))) (BK hi (Ak (Ag (Ak h))) g) fun X' Ai cx' ek'=>BK hm (Ak (Ak h)) (g.at cx' ek'))
theorem MO{k t:Bool}{ns:Dm}{Γ:List Str}{m it:ME Fn}{e:Expr}(hm:AV m)(hi:AV it)(h:B2 t k ns Γ (.compR m it) e=true):E9 k ns Γ (.compR m it) e:=
 DO (Ak h) fun elt gs sc p h=>Ie (Q:=fun gs=>E9 k ns Γ (.compR m it) (.ListComp elt gs sc p)) h fun x px iter fs h=>e0 (P:=fun fs=>E9 k ns Γ (.compR m it) (.ListComp elt [⟨.Name x px,iter,fs,0⟩] sc p)) (Ag (Ag h))
  (FY (P:=fun iter=>E9 k ns Γ (.compR m it) (.ListComp elt [⟨.Name x px,iter,[],0⟩] sc p)) (Ak h) fun p2 a q hg hs ho G g=>
  NR (MX g.cx g.ek g.al.ub (Fy (Ak (Ag h))) hg hs (BK hi (Ag ho) g) fun X' Ai cx' ek'=>BK hm (Ak ho) (g.at cx' ek')))
theorem WI{k t:Bool}{ns:Dm}{Γ:List Str}{m c it:ME Fn}{e:Expr}(hm:AV m)(hc:AV c)(hi:AV it)(h:B2 t k ns Γ (.compIf m c it) e=true):E9 k ns Γ (.compIf m c it) e:=
 DO (Ak h) fun elt gs sc p h=>Ie (Q:=fun gs=>E9 k ns Γ (.compIf m c it) (.ListComp elt gs sc p)) h fun x px iter fs h=>Db (P:=fun fs=>E9 k ns Γ (.compIf m c it) (.ListComp elt [⟨.Name x px,iter,fs,0⟩] sc p)) (Ak h) fun f hf=>
  FY (P:=fun iter=>E9 k ns Γ (.compIf m c it) (.ListComp elt [⟨.Name x px,iter,[f],0⟩] sc p)) hf fun p2 a q hg hs ho G g=>
  NR (Sk g.cx g.ek g.al.ub (Fy (Ag h)) hg hs (BK hi (Ag ho) g) (fun X' Ai cx' ek'=>BK hm (Ag (Ak ho)) (g.at cx' ek')) fun X' Ai cx' ek'=>(hc _ _ _ _ _ (Ak (Ak ho)) _ (g.at cx' ek')).2 rfl)
theorem Pt{k t:Bool}{ns:Dm}{Γ:List Str}{m it:ME Fn}{e:Expr}(hm:AV m)(hi:AV it)(h:B2 t k ns Γ (.dcomp m it) e=true):E9 k ns Γ (.dcomp m it) e:=
 GP (Ak h) fun ke vx gs sc p h=>Ie (Q:=fun gs=>E9 k ns Γ (.dcomp m it) (.DictComp ke vx gs sc p)) h fun x px iter fs h=>e0 (P:=fun fs=>E9 k ns Γ (.dcomp m it) (.DictComp ke vx [⟨.Name x px,iter,fs,0⟩] sc p)) (Ag (Ag h))
  (BH (P:=fun ke=>E9 k ns Γ (.dcomp m it) (.DictComp ke vx [⟨.Name x px,iter,[],0⟩] sc p)) (Ak h) fun y py ho G g=>
  YE (NT g.cx g.ek (Fy (Ak (Ag h))) (Ag (Ag (Ag (Ak ho)))) ⟨py,by rw[eq_of_beq (Ag ho)]⟩ (Ak (Ag (Ag (Ak ho)))) (BK hi (Ak (Ag (Ak ho))) g) fun a o X' Ai cx' ek'=>BK (G:={ G with U:=G.U.pinAt a o,X:=X',env:=Ai}) hm (Ak (Ak ho)) ⟨g.al.pin,cx',g.rm,ek',fun q=>nf q⟩))
theorem iA{f:Fn}(h:Rg f=true){P:Fn->Prop}(p:P .AU):P f:=by
 refine WO h ?_;clear h
 cases f<;>first | exact p | exact True.intro
theorem NK{α:Type}[BEq α][LawfulBEq α]{a:α}{l:List α}(h:l.contains a=true):a ∈ l:=List.contains_iff_mem.mp h
mutual
theorem Ab:∀m:ME Fn,AV m
 | .O i=>fun t k ns Γ e h=>pl h fun h=>BH (P:=A1 k ns Γ (.O i)) h fun nm p h G g=>QG g.ek (eq_of_beq (Ag h)) (Ak h)
 | .cst v=>fun t k ns Γ e h=>pl h fun h=>GJ (P:=A1 k ns Γ (.cst v)) h fun c j p h G g=>S7 h
 | .usub j=>fun t k ns Γ e h=>pl h fun h=>HJ (P:=A1 k ns Γ (.usub j)) h fun op x p h=>bq (P:=fun op=>A1 k ns Γ (.usub j) (.UnaryOp op x p)) (Ag h) (ML (P:=fun x=>A1 k ns Γ (.usub j) (.UnaryOp .USub x p)) (Ak h) fun J J G g=>Uz)
 | .gmax=>fun t k ns Γ e h=>pl h fun h=>O8 (P:=A1 k ns Γ .gmax) h fun p hg G g=>by
  obtain⟨t0,hm⟩:=g.al.gmx
  exact T1 g.ek g.cx.gf hg hm
 | .attr m a=>fun t k ns Γ e h=>pl h fun h=>DC (P:=A1 k ns Γ (.attr m a)) h fun o nm p h=>bq (P:=fun nm=>A1 k ns Γ (.attr m a) (.Attribute o nm p)) (Ag h) fun G g=>Vn g.al.uf g.cx (NK (Ag (Ag (Ak h)))) (Ak (Ag (Ak h))) (BK (Ab m) (Ak (Ak h)) g)
 | .idx m i=>fun t k ns Γ e h=>pl h fun h=>DD (P:=A1 k ns Γ (.idx m i)) h fun o sl p h G g=>Xw (BK (Ab m) (Ag h) g) (BK (Ab i) (Ak h) g)
 | .cutTo m i=>fun t k ns Γ e h=>pl h fun h=>DD (P:=A1 k ns Γ (.cutTo m i)) h fun o sl p h=>JU (P:=fun sl=>A1 k ns Γ (.cutTo m i) (.Subscript o sl p)) (Ak h) fun a b c q h2=>
  HB (P:=fun a=>A1 k ns Γ (.cutTo m i) (.Subscript o (.Slice a b c q) p)) (Ag (Ag h2)) (HB (P:=fun c=>A1 k ns Γ (.cutTo m i) (.Subscript o (.Slice none b c q) p)) (Ak (Ag h2)) (FQ (P:=fun b=>A1 k ns Γ (.cutTo m i) (.Subscript o (.Slice none b none q) p)) (Ak h2) fun j h3 G g=>
  BH (P:=fun o=>Wz G Γ m o->Wz G Γ (.cutTo m i) (.Subscript o (.Slice none (some j) none q) p)) (Ag h) (fun nm p1 J ho=>Rb g.al.Aa g.cx.gf ho (BK (Ab i) (Ak h3) g)) (BK (Ab m) (Ag h3) g)))
 | .cutFrom m i=>fun t k ns Γ e h=>pl h fun h=>DD (P:=A1 k ns Γ (.cutFrom m i)) h fun o sl p h=>JU (P:=fun sl=>A1 k ns Γ (.cutFrom m i) (.Subscript o sl p)) (Ak h) fun a b c q h2=>
  HB (P:=fun b=>A1 k ns Γ (.cutFrom m i) (.Subscript o (.Slice a b c q) p)) (Ag (Ag h2)) (HB (P:=fun c=>A1 k ns Γ (.cutFrom m i) (.Subscript o (.Slice a none c q) p)) (Ak (Ag h2)) (FQ (P:=fun a=>A1 k ns Γ (.cutFrom m i) (.Subscript o (.Slice a none none q) p)) (Ak h2) fun j h3 G g=>
  BH (P:=fun o=>Wz G Γ m o->Wz G Γ (.cutFrom m i) (.Subscript o (.Slice (some j) none none q) p)) (Ag h) (fun nm p1 J ho=>Nv g.cx.gf ho (BK (Ab i) (Ak h3) g)) (BK (Ab m) (Ag h3) g)))
 | .bin op a b=>fun t k ns Γ e h=>pl h fun h=>Qb (P:=A1 k ns Γ (.bin op a b)) h fun l o r p h=>bq (P:=fun o=>A1 k ns Γ (.bin op a b) (.BinOp l o r p)) (Ag h) fun G g=>W3 g.cx (BK (Ab a) (Ag (Ak h)) g) (BK (Ab b) (Ak (Ak h)) g)
 | .cmp op a b=>fun t k ns Γ e h=>pl h fun h=>H7 (P:=A1 k ns Γ (.cmp op a b)) h fun l o r p h=>bq (P:=fun o=>A1 k ns Γ (.cmp op a b) (.Compare l [o] [r] p)) (Ag h) fun G g=>Yq g.cx (nt (Ag (Ak h))) (BK (Ab a) (Ag (Ak (Ak h))) g) (BK (Ab b) (Ak (Ak (Ak h))) g)
 | .isNone neg m=>fun t k ns Γ e h=>pl h fun h=>H7 (P:=A1 k ns Γ (.isNone neg m)) h fun l o r p h=>bq (P:=fun o=>A1 k ns Γ (.isNone neg m) (.Compare l [o] [r] p)) (Ag h) (ML (P:=fun r=>A1 k ns Γ (.isNone neg m) (.Compare l [if neg then .IsNot else .Is] [r] p)) (Ag (Ak h)) fun J J G g=>Qd (BK (Ab m) (Ak (Ak h)) g))
 | .inW neg m ws=>fun t k ns Γ e h=>pl h fun h=>H7 (P:=A1 k ns Γ (.inW neg m ws)) h fun l o r p h=>bq (P:=fun o=>A1 k ns Γ (.inW neg m ws) (.Compare l [o] [r] p)) (Ag h) (Fv (P:=fun r=>A1 k ns Γ (.inW neg m ws) (.Compare l [if neg then .NotIn else .In] [r] p)) (Ak h) fun es j q h G g=>Xj (Nat.le_of_ble_eq_true (Ag (Ag h))) (BK (Ab m) (Ak h) g) (J0 (Ak (Ag h))))
 | .and2 a b=>fun t k ns Γ e h=>VY (P:=WB k ns Γ t (.and2 a b)) h
  (fun x y p h G g=>⟨OI (t:=true) (Ab a _ _ _ _ _ (Ag h) G g).1 (O0 (Ab b _ _ _ _ _ (Ak h) G g).1),fun et=>Po (t:=true) ((Ab a _ _ _ _ _ (Ag h) G g).2 et) (OD (t:=true) ((Ab b _ _ _ _ _ (Ak h) G g).2 et))⟩)
  fun x y z r p h G g=>⟨OI (t:=true) (Ab a _ _ _ _ _ (Ag h) G g).1 (MG (Ab b _ _ _ _ _ (Ak h) G g).1),fun et=>Po (t:=true) ((Ab a _ _ _ _ _ (Ag h) G g).2 et) (MZ ((Ab b _ _ _ _ _ (Ak h) G g).2 et))⟩
 | .or2 a b=>fun t k ns Γ e h=>VY (P:=WB k ns Γ t (.or2 a b)) h
  (fun x y p h G g=>⟨OI (t:=false) (Ab a _ _ _ _ _ (Ag h) G g).1 (O0 (Ab b _ _ _ _ _ (Ak h) G g).1),fun et=>Po (t:=false) ((Ab a _ _ _ _ _ (Ag h) G g).2 et) (OD (t:=false) ((Ab b _ _ _ _ _ (Ak h) G g).2 et))⟩)
  fun x y z r p h G g=>⟨OI (t:=false) (Ab a _ _ _ _ _ (Ag h) G g).1 (MG (Ab b _ _ _ _ _ (Ak h) G g).1),fun et=>Po (t:=false) ((Ab a _ _ _ _ _ (Ag h) G g).2 et) (MZ ((Ab b _ _ _ _ _ (Ak h) G g).2 et))⟩
 | .not m=>fun t k ns Γ e h=>HJ (P:=WB k ns Γ t (.not m)) h fun op x p h=>bq (P:=fun op=>WB k ns Γ t (.not m) (.UnaryOp op x p)) (Ag h) fun G g=>⟨W0 (Ab m _ _ _ _ _ (Ak h) G g).1,fun et=>Yo ((Ab m _ _ _ _ _ (Ak h) G g).2 et)⟩
 | .ite c a b=>fun t k ns Γ e h=>Px (P:=WB k ns Γ t (.ite c a b)) h fun ec ea eb p h G g=>⟨XD ((Ab c _ _ _ _ _ (Ag h) G g).2 rfl) (Ab a _ _ _ _ _ (Ag (Ak h)) G g).1 (Ab b _ _ _ _ _ (Ak (Ak h)) G g).1,fun et=>XZ ((Ab c _ _ _ _ _ (Ag h) G g).2 rfl) ((Ab a _ _ _ _ _ (Ag (Ak h)) G g).2 et) ((Ab b _ _ _ _ _ (Ak (Ak h)) G g).2 et)⟩
 | .lst ms=>fun t k ns Γ e h=>pl h fun h=>Ro (P:=A1 k ns Γ (.lst ms)) h fun es p h G g=>XV g.cx.gf (D3 ms _ _ _ _ (Ag h) (Ak h) G g)
 | .tup ms=>fun t k ns Γ e h=>pl h fun h=>Fv (P:=A1 k ns Γ (.tup ms)) h fun es J p h G g=>Xg g.cx.gf (D3 ms _ _ _ _ (Ag h) (Ak h) G g)
 | .dct0=>fun t k ns Γ e h=>pl h fun h=>I2 (P:=A1 k ns Γ .dct0) h fun a b p h=>e0 (P:=fun a=>A1 k ns Γ .dct0 (.Dict a b p)) (Ag h) (e0 (P:=fun b=>A1 k ns Γ .dct0 (.Dict [] b p)) (Ak h) fun G g=>UH g.cx.gf)
 | .dct0I=>fun t k ns Γ e h=>pl h fun h=>I2 (P:=A1 k ns Γ .dct0I) h fun a b p h=>e0 (P:=fun a=>A1 k ns Γ .dct0I (.Dict a b p)) (Ag h) (e0 (P:=fun b=>A1 k ns Γ .dct0I (.Dict [] b p)) (Ak h) fun G g=>Tq g.cx.gf)
 | .dct1 j m=>fun t k ns Γ e h=>pl h fun h=>I2 (P:=A1 k ns Γ (.dct1 j m)) h fun a b p h=>Db (P:=fun a=>A1 k ns Γ (.dct1 j m) (.Dict a b p)) h fun o h=>FQ (P:=fun o=>A1 k ns Γ (.dct1 j m) (.Dict [o] b p)) h fun c h=>
  ML (P:=fun c=>A1 k ns Γ (.dct1 j m) (.Dict [some c] b p)) (Ag h) fun i q=>Db (P:=fun b=>A1 k ns Γ (.dct1 j m) (.Dict [some (.Constant (.str (wd j)) i q)] b p)) (Ak h) fun x h G g=>Uc g.cx.gf (BK (Ab m) h g)
 | .call f ms=>fun t k ns Γ e h=>pl h fun h=>JY (P:=A1 k ns Γ (.call f ms)) h fun p es q hg h G g=>VL g.al.uc g.cx g.ek g.al.call hg (nt (Ag (Ag h))) (nt (Ak (Ag h))) (Ag (Ak h)) (D3 ms _ _ _ _ (Ag (Ak h)) (Ak (Ak h)) G g)
 | .mk c ms=>fun t k ns Γ e h=>pl h fun h=>JY (P:=A1 k ns Γ (.mk c ms)) h fun p es q hg h G g=>Zn g.al.um g.al.ub g.cx g.rm g.ek g.al.call g.al.init hg (Ag h) (D3 ms _ _ _ _ (Ag h) (Ak h) G g)
 | .len m=>fun t k ns Γ e h=>pl h fun h=>FY (P:=A1 k ns Γ (.len m)) h fun p x q hg hs h G g=>Yj g.ek g.cx.gf g.al.ub hg hs (BK (Ab m) h g)
 | .listOf m=>fun t k ns Γ e h=>pl h fun h=>FY (P:=A1 k ns Γ (.listOf m)) h fun p x q hg hs h G g=>PN g.ek g.cx.gf g.al.ub hg hs (BK (Ab m) h g)
 | .dictOf m=>fun t k ns Γ e h=>pl h fun h=>FY (P:=A1 k ns Γ (.dictOf m)) h fun p x q hg hs h G g=>PW g.ek g.cx.gf g.al.ub hg hs (BK (Ab m) h g)
 | .strOf m=>fun t k ns Γ e h=>pl h fun h=>FY (P:=A1 k ns Γ (.strOf m)) h fun p x q hg hs h G g=>QP g.ek g.cx.gf g.al.ub hg hs (BK (Ab m) h g)
 | .max2 a b=>fun t k ns Γ e h=>pl h fun h=>Ks (P:=A1 k ns Γ (.max2 a b)) h fun p x y q hg hs h G g=>Vu g.cx g.ek g.al.ub hg hs (Ag h) (BK (Ab a) (Ag (Ak h)) g) (BK (Ab b) (Ak (Ak h)) g)
 | .isV m=>fun t k ns Γ e h=>pl h fun h=>Ks (P:=A1 k ns Γ (.isV m)) h fun p x y q hg hs h=>O8 (P:=fun y=>A1 k ns Γ (.isV m) (.Call (.Name "isinstance" p) [x,y] [] q)) (Ag h) fun p2 hg2 G g=>WY g.cx.gf g.ek g.al.ub hg hg2 hs (BK (Ab m) (Ak h) g)
 | .isT m ty=>fun t k ns Γ e h=>pl h fun h=>Ks (P:=A1 k ns Γ (.isT m ty)) h fun p x y q hg hs h=>O8 (P:=fun y=>A1 k ns Γ (.isT m ty) (.Call (.Name "isinstance" p) [x,y] [] q)) (Ag h) fun p2 hg2 G g=>Xd g.al.uf g.al.ug g.cx.gf g.ek g.al.ub hg hg2 hs (BK (Ab m) (Ak h) g)
 | .append o m=>fun t k ns Γ e h=>pl h fun h=>I6 (P:=A1 k ns Γ (.append o m)) h fun x ap y p h1 h2 h3 h G g=>P1 h1 h2 h3 (BK (Ab o) (Ag h) g) (BK (Ab m) (Ak h) g)
 | .extend o m=>fun t k ns Γ e h=>pl h fun h=>I6 (P:=A1 k ns Γ (.extend o m)) h fun x ap y p h1 h2 h3 h G g=>PU h1 h2 h3 (BK (Ab o) (Ag h) g) (BK (Ab m) (Ak h) g)
 | .index o m=>fun t k ns Γ e h=>pl h fun h=>I6 (P:=A1 k ns Γ (.index o m)) h fun x ap y p h1 h2 h3 h G g=>RN h1 h2 h3 (BK (Ab o) (Ag h) g) (BK (Ab m) (Ak h) g)
 | .get1 o m=>fun t k ns Γ e h=>pl h fun h=>I6 (P:=A1 k ns Γ (.get1 o m)) h fun x ap y p h1 h2 h3 h G g=>VC h1 h2 h3 (BK (Ab o) (Ag h) g) (BK (Ab m) (Ak h) g)
 | .starts o m=>fun t k ns Γ e h=>pl h fun h=>I6 (P:=A1 k ns Γ (.starts o m)) h fun x ap y p h1 h2 h3 h G g=>PE g.al.bg h1 h2 h3 (BK (Ab o) (Ag h) g) (BK (Ab m) (Ak h) g)
 | .get2 o m d=>fun t k ns Γ e h=>pl h fun h=>QJ (P:=A1 k ns Γ (.get2 o m d)) h fun x ap es p h1 h2 h=>JL (P:=fun es=>A1 k ns Γ (.get2 o m d) (.Call (.Attribute x "get" ap) es [] p)) h fun y z h G g=>UZ h1 h2 (Ag (Ag h)) (Ak (Ag h)) (BK (Ab o) (Ag (Ak h)) g) (BK (Ab m) (Ag (Ak (Ak h))) g) (BK (Ab d) (Ak (Ak (Ak h))) g)
 | .pop o=>fun t k ns Γ e h=>pl h fun h=>NS (P:=A1 k ns Γ (.pop o)) h fun x ap p h1 h2 h G g=>X6 h1 h2 (BK (Ab o) h g)
 | .reverse o=>fun t k ns Γ e h=>pl h fun h=>NS (P:=A1 k ns Γ (.reverse o)) h fun x ap p h1 h2 h G g=>N0 h1 h2 (BK (Ab o) h g)
 | .mcall o f=>fun t k ns Γ e h=>pl h fun h=>iA (Ag h) (P:=fun f=>A1 k ns Γ (.mcall o f) e) (NS (P:=A1 k ns Γ (.mcall o .AU)) (Ak h) fun x ap p h1 h2 h G g=>Vt g.al.uc g.al.um g.cx g.al.call h1 h2 (BK (Ab o) h g))
 | .comp m it=>fun t k ns Γ e h=>bI (Ag h) (OO (Ab m) (Ab it) h)
 | .compR m it=>fun t k ns Γ e h=>bI (Ag h) (MO (Ab m) (Ab it) h)
 | .compIf m c it=>fun t k ns Γ e h=>bI (Ag h) (WI (Ab m) (Ab c) (Ab it) h)
 | .dcomp m it=>fun t k ns Γ e h=>bI (Ag h) (Pt (Ab m) (Ab it) h)
 | .kept m=>fun t k ns Γ e h=>pl h fun h=>JY (P:=A1 k ns Γ (.kept m)) (Ak h) fun p es q hg h2=>Db (P:=fun es=>A1 k ns Γ (.kept m) (.Call (.Name "_law_kept" p) es [] q)) h2 fun l h2=>M8 (P:=fun l=>A1 k ns Γ (.kept m) (.Call (.Name "_law_kept" p) [l] [] q)) h2 fun params body sc lp h2 G g=>
  g.kr (Ag h) m _ _ _ _ _ _ hg (Ag h2) fun A' X' Ai cx' rm' ek'=>BK (G:={ G with A:=A',X:=X',Ad:=Ai,env:=Ai}) (Ab m) (Ak h2) ⟨g.al,cx',rm',ek',fun q=>nf q⟩
 | .bad=>fun t k ns Γ e h G g=>by
  have e0:∀vs H,Ac G.C (.bad:ME Fn) vs H=.bad:=fun vs H=>rfl
  exact⟨fun ρ H s vs Q E x eo hp=>by rw[e0]at hp;exact hp.elim,fun J ρ H s vs Q E x eo hp=>by unfold bnd at hp;rw[e0]at hp;exact hp.elim⟩
theorem D3:∀ms:List (ME Fn),dP ms
 | []=>fun k ns Γ es hs h G g=>e0 (P:=OB G.U G.xc G.C G.A G.X G.env Γ []) h KT
 | m::ms=>fun k ns Γ es=> @List.casesOn _ (fun es=>es.all Ar=true->NB k ns Γ (m::ms) es=true->∀G:Ge,Pk k ns Γ G->OB G.U G.xc G.C G.A G.X G.env Γ (m::ms) es) es (fun J h=>nf h) fun e r hs h G g=>Jr (Ag hs) (BK (Ab m) (Ag h) g) (D3 ms _ _ _ _ (Ak hs) (Ak h) G g)
end
noncomputable def M7(ns:Dm)(nm:Str)(px p:Pos)(sc:Scope):Bool:=ns.lookup nm==some .local&&px.line==p.line&& !(sc.names.any fun(n,k)=>n==nm&&(k== .local||k== .cell))
noncomputable def Pa(ns:Dm)(Γ:List Str):List Nat->List Expr->Bool
 | [],es=>es.isEmpty
 | i::is,es=> @List.casesOn _ (fun J=>Bool) es false fun e es=>Dp e (fun nm J=>Γ[i]? ==some nm&&A2 ns nm)&&Pa ns Γ is es
noncomputable def Rc(m:MS Fn):Bool:= @MS.casesOn Fn (fun J=>Bool) m (fun J J=>false) (fun J J=>false) (fun J J J=>false) (fun J J J=>false) (fun J J=>false) (fun J=>false) (fun J=>false) false (fun J J J=>false) (fun J J J=>false) (fun J J J J=>false) (fun J J J=>false) (fun J J J=>false) (fun J=>false) true
theorem Qm{P:MS Fn->Prop}{m:MS Fn}(h:Rc m=true)(p:P .bad):P m:= @MS.casesOn Fn (fun m=>Rc m=true->P m) m (fun J J=>nf) (fun J J=>nf) (fun J J J=>nf) (fun J J J=>nf) (fun J J=>nf) (fun J=>nf) (fun J=>nf) nf (fun J J J=>nf) (fun J J J=>nf) (fun J J J J=>nf) (fun J J J=>nf) (fun J J J=>nf) (fun J=>nf) (fun J=>p) h
noncomputable def Y2(m:ME Fn):Bool:= @ME.casesOn Fn (fun J=>Bool) m (fun J=>false) (fun J=>false) (fun J=>false) false (fun J J=>false) (fun J J=>false) (fun J J=>false) (fun J J=>false) (fun J J J=>false) (fun J J J=>false) (fun J J=>false) (fun J J J=>false) (fun J J=>false) (fun J J=>false) (fun J=>false) (fun J J J=>false) (fun J=>false) (fun J=>false) false false (fun J J=>false) (fun J J=>false) (fun J J=>false) (fun J=>false) (fun J=>false) (fun J=>false) (fun J=>false) (fun J J=>false) (fun J=>false) (fun J J=>false) (fun J J=>false) (fun J J=>false) (fun J=>false) (fun J=>false) (fun J J=>false) (fun J J=>false) (fun J J J=>false) (fun J J=>false) (fun J J=>false) (fun J J=>true) (fun J J=>true) (fun J J J=>true) (fun J J=>true) (fun J=>false) false
theorem Xv{P:ME Fn->Prop}{m:ME Fn}(h:Y2 m=true)(f1:∀a b,P (.comp a b))(f2:∀a b,P (.compR a b))(f3:∀a b c,P (.compIf a b c))(f4:∀a b,P (.dcomp a b)):P m:= @ME.casesOn Fn (fun m=>Y2 m=true->P m) m (fun J=>nf) (fun J=>nf) (fun J=>nf) nf (fun J J=>nf) (fun J J=>nf) (fun J J=>nf) (fun J J=>nf) (fun J J J=>nf) (fun J J J=>nf) (fun J J=>nf) (fun J J J=>nf) (fun J J=>nf) (fun J J=>nf) (fun J=>nf) (fun J J J=>nf) (fun J=>nf) (fun J=>nf) nf nf (fun J J=>nf) (fun J J=>nf) (fun J J=>nf) (fun J=>nf) (fun J=>nf) (fun J=>nf) (fun J=>nf) (fun J J=>nf) (fun J=>nf) (fun J J=>nf) (fun J J=>nf) (fun J J=>nf) (fun J=>nf) (fun J=>nf) (fun J J=>nf) (fun J J=>nf) (fun J J J=>nf) (fun J J=>nf) (fun J J=>nf) (fun a b J=>f1 a b) (fun a b J=>f2 a b) (fun a b c J=>f3 a b c) (fun a b J=>f4 a b) (fun J=>nf) nf h
noncomputable def cZ(ns:Dm)(nm:Str)(px:Pos)(e:Expr):Bool:=DU e (fun J J sc p=>M7 ns nm px p sc)||FI e (fun J J J sc p=>M7 ns nm px p sc)
noncomputable def ZX(ns:Dm)(Γ:List Str)(is:List Nat)(ts:List Expr)(e:Expr):Bool:=x2 is fun i j=>x2 ts fun ta tb=>Dp ta fun a pa=>Dp tb fun b pb=>Hf e fun vs J J=>x2 vs fun v1 v2=>
 (Ar v1&&Ar v2)&&(ns.lookup a==some .local&&ns.lookup b==some .local)&&(pb.line==pa.line&&a != b)&&(!([v1,v2].all (foldedForSure 8))&& !([v1,v2].all (constantsAlone 8)))&&(i != j&&(Γ[i]? ==some a&&Γ[j]? ==some b))
mutual
noncomputable def fZ(k:Bool)(ns:Dm)(Γ:List Str):MS Fn->Stmt->Bool
 | .asg i m,st=>E0 st fun ts e J=>x1 ts fun t=>Dp t fun nm px=>Γ[i]? ==some nm&&B2 false k ns Γ m e&&(cZ ns nm px e&&Y2 m||DQ e&&A2 ns nm)
 | .asgT is m,st=>E0 st fun ts e J=>x1 ts fun t=>Hf t fun es J J=>B2 false k ns Γ m e&&(ZX ns Γ is es e||NJ e&&Pa ns Γ is es)
 | .setA o a m,st=>E0 st fun ts e J=>x1 ts fun t=>Dt t fun x nm J=>nm==wd a&&(CV.contains a&&DQ e&&(B2 false k ns Γ m e&&B2 false k ns Γ o x))
 | .setI o i m,st=>E0 st fun ts e J=>x1 ts fun t=>DA t fun x j J=>DQ e&&(B2 false k ns Γ m e&&(B2 false k ns Γ o x&&B2 false k ns Γ i j))
 | .augL i m,st=>Gf st fun t op e J=>op== .Add&&Dp t fun nm J=>Γ[i]? ==some nm&&(ns.lookup nm==some .local&&B2 false k ns Γ m e)
 | .ex m,st=>Ta st fun e J=>DQ e&&B2 false k ns Γ m e
 | .ret m,st=>GG st fun o J=>xo o fun e=>B2 false k ns Γ m e
 | .ret0,st=>GG st fun o J=>o.isNone
 | .ifs c t e,st=>eJ st fun ec bt be J=>B2 true k ns Γ c ec&&(Go k ns Γ t bt&&Go k ns Γ e be)
 | .forN i m b,st=>PX st fun t it body el J=>el.isEmpty&&Dp t fun nm J=>Γ[i]? ==some nm&&A2 ns nm&&WK ns it "range" fun e=>B2 false k ns Γ m e&&Go k ns Γ b body
 | .forR i m m2 b,st=>PX st fun t it body el J=>el.isEmpty&&Dp t fun nm J=>Γ[i]? ==some nm&&A2 ns nm&&ZU ns it "range" fun e e2=>Ar e2&&(B2 false k ns Γ m e&&(B2 false k ns Γ m2 e2&&Go k ns Γ b body))
 | .forE i m b,st=>PX st fun t e body el J=>el.isEmpty&&Dp t fun nm J=>Γ[i]? ==some nm&&A2 ns nm&&(EM e&&(B2 false k ns Γ m e&&Go k ns Γ b body))
 | .forD i m b,st=>PX st fun t e body el J=>el.isEmpty&&Dp t fun nm J=>Γ[i]? ==some nm&&A2 ns nm&&(EM e&&(B2 false k ns Γ m e&&Go false ns Γ b body))
 | .raise m,st=>Og st fun x c J=>c.isNone&&xo x fun e=>xC ns e "Refusal" fun es=>x1 es fun a=>xK a (.str (wd m))
 | .bad,_=>true
noncomputable def Go(k:Bool)(ns:Dm)(Γ:List Str):List (MS Fn)->List Stmt->Bool
 | [],st=>st.isEmpty
 | m::ms,st=> @List.casesOn _ (fun J=>Bool) st false fun x r=>fZ k ns Γ m x&&(Rc m||Go k ns Γ ms r)
end
theorem Mq{nm:Str}{px p:Pos}{sc:Scope}(h:M7 ns nm px p sc=true)(ek:AJ X Ad env ns):(env.blockKind== .function&&env.kindOf nm==some .local&&px.line==p.line&& !(sc.names.any fun(n,k)=>n==nm&&(k== .local||k== .cell)))=true:=by
 have bk:(env.blockKind== .function)=true:=by unfold PySem.Env.blockKind;rw[ek.kind];rfl
 have kk:(env.kindOf nm==some .local)=true:=by unfold PySem.Env.kindOf;rw[ek.names];exact Ag (Ag h)
 have h1:=Ak (Ag h)
 have h2:=Ak h
 rw[bk,kk,h1,h2];rfl
theorem RL{nm:Str}{px pos:Pos}{e:Expr}(h:cZ ns nm px e=true):ns.lookup nm=some .local/\∀(X:Fx) (env:PySem.Env),AJ X Ad env ns->exec (.Assign [.Name nm px] e pos) env=(do standAt pos;(G7 e env (some (assign (.Name nm px) env)) >>= fun J=>pure ());pure .next):=by
 rcases(Bool.or_eq_true _ _).mp h with h | h
 .refine DO (P:=fun e=>ns.lookup nm=some .local/\∀(X:Fx) (env:PySem.Env),AJ X Ad env ns->exec (.Assign [.Name nm px] e pos) env=(do standAt pos;(G7 e env (some (assign (.Name nm px) env)) >>= fun J=>pure ());pure .next)) h fun elt gens sc p h=>⟨beq_iff_eq.mp (Ag (Ag h)),fun X env ek=> ?_⟩
  rw[exec_Assign_Name_used _ _ _ _ (show swapsWith (.ListComp elt gens sc p) (some (.Name nm px)) pos.line env=pure true from congrArg pure (Mq h ek))]
  rfl
 .refine GP (P:=fun e=>ns.lookup nm=some .local/\∀(X:Fx) (env:PySem.Env),AJ X Ad env ns->exec (.Assign [.Name nm px] e pos) env=(do standAt pos;(G7 e env (some (assign (.Name nm px) env)) >>= fun J=>pure ());pure .next)) h fun kx vx gens sc p h=>⟨beq_iff_eq.mp (Ag (Ag h)),fun X env ek=> ?_⟩
  rw[exec_Assign_Name_used _ _ _ _ (show swapsWith (.DictComp kx vx gens sc p) (some (.Name nm px)) pos.line env=pure true from congrArg pure (Mq h ek))]
  rfl
inductive Yl(ns:Dm)(Γ:List Str)(is:List Nat):List Expr->Prop
 | mk (tg:List (Str×Pos)) (hl:tg.length=is.length) (hi:∀(j i:Nat) (p:Str×Pos),is[j]? =some i->tg[j]? =some p->Γ[i]? =some p.1/\A2 ns p.1=true):Yl ns Γ is (tg.map fun p=> .Name p.1 p.2)
theorem Yl.cons{i:Nat}{is:List Nat}{nm:Str}{px:Pos}{es:List Expr}(t:Yl ns Γ is es)(h:(Γ[i]? ==some nm&&A2 ns nm)=true):Yl ns Γ (i::is) (.Name nm px::es):=by
 obtain⟨tg,hl,hi⟩:=t
 refine .mk ((nm,px)::tg) (congrArg (·+1) hl) fun j i' p e1 e2=> ?_
 cases j with
 | zero=>cases e1;cases e2;exact⟨eq_of_beq (Ag h),Ak h⟩
 | succ j=>exact hi j i' p e1 e2
theorem Sj:∀{is:List Nat} {es:List Expr},Pa ns Γ is es=true->Yl ns Γ is es
 | [],_,h=>e0 (P:=Yl ns Γ []) h (.mk [] rfl fun j i p e=>nomatch e)
 | _::_,[],h=>nf h
 | _::_,_::es,h=>BH (P:=fun e=>Yl ns Γ _ (e::es)) (Ag h) fun J J q=>(Sj (Ak h)).cons q
structure Gs where
 U:Un
 xc:Value
 fa:Fn->Addr
 n:Nat
 C:Ja Fn
 A:Around
 Ad:PySem.Env
structure Ps(k:Bool)(ns:Dm)(Γ:List Str)(G:Gs):Prop where
 nd:Γ.Nodup
 al:Al G.U G.xc G.fa G.n G.C
 rm:DK G.A G.n 3
 kr:k=true->∀X,SX G.U G.A X G.Ad G.Ad G.n ns->IU G.U G.xc G.C G.A X G.Ad Γ ns G.n
noncomputable def B6(k:Bool)(ns:Dm)(Γ:List Str)(m:MS Fn)(st:Stmt):Prop:=∀G:Gs,Ps k ns Γ G->SS G.U G.xc G.C G.A G.Ad G.Ad G.n ns Γ m st
noncomputable abbrev cA(m:MS Fn):Prop:=∀(k:Bool) (ns:Dm) (Γ:List Str) (st:Stmt),fZ k ns Γ m st=true->B6 k ns Γ m st
noncomputable def aL(ms:List (MS Fn)):Prop:=∀(k:Bool) (ns:Dm) (Γ:List Str) (st:List Stmt),Go k ns Γ ms st=true->∀G:Gs,Ps k ns Γ G->N1 G.U G.xc G.C G.A G.Ad G.Ad G.n ns Γ ms st
theorem ZO(rm:DK A n 3):DK A n 1:=⟨by have:=rm.1;exact dA ‹_› (by rfl),by have:=rm.2;exact dA ‹_› (by rfl)⟩
noncomputable abbrev Gs.at(G:Gs)(X:Fx):Ge:=⟨G.U,G.xc,G.fa,G.n,G.C,G.A,X,G.Ad,G.Ad⟩
theorem Ps.at{k:Bool}{G:Gs}(g:Ps k ns Γ G){X:Fx}(sx:SX G.U G.A X G.Ad G.Ad G.n ns):Pk k ns Γ (G.at X):=⟨g.al,sx.cx,ZO g.rm,sx.ek,fun hk=>g.kr hk X sx⟩
theorem M0{k:Bool}{m:ME Fn}{e:Expr}{G:Gs}(h:B2 false k ns Γ m e=true)(g:Ps k ns Γ G):LE G.U G.xc G.C G.A G.Ad G.Ad G.n ns Γ m e:=fun X sx=>BK (Ab m) h (g.at sx)
theorem gW{k:Bool}{m:ME Fn}{e:Expr}{G:Gs}(h:B2 true k ns Γ m e=true)(g:Ps k ns Γ G):fU G.U G.xc G.C G.A G.Ad G.Ad G.n ns Γ m e:=fun X sx=>(Ab m _ _ _ _ _ h (G.at X) (g.at sx)).2 rfl
theorem W5{st:Stmt}:SS U xc C A Ad env n ns Γ (.bad:MS Fn) st:=fun X ρ H s vs Q E sx x eo hp=>hp.elim
theorem U0{ms:List (MS Fn)}{st:List Stmt}:N1 U xc C A Ad env n ns Γ (.bad::ms:List (MS Fn)) st:=fun X ρ H s vs Q E sx x eo hp=>hp.elim
theorem PK{k:Bool}{m:ME Fn}{e:Expr}(hc:Y2 m=true):B2 false k ns Γ m e=true->E9 k ns Γ m e:=
 Xv (P:=fun m=>B2 false k ns Γ m e=true->E9 k ns Γ m e) hc (fun a b=>OO (Ab a) (Ab b)) (fun a b=>MO (Ab a) (Ab b)) (fun a b c=>WI (Ab a) (Ab b) (Ab c)) fun a b=>Pt (Ab a) (Ab b)
theorem Ug{k:Bool}{m:ME Fn}{e:Expr}{i:Nat}{nm:Str}{px p:Pos}{G:Gs}(g:Ps k ns Γ G)(h1:(Γ[i]? ==some nm)=true)(ho:B2 false k ns Γ m e=true)(h:(cZ ns nm px e&&Y2 m)=true):SS G.U G.xc G.C G.A G.Ad G.Ad G.n ns Γ (.asg i m) (.Assign [.Name nm px] e p):=
 Ue (eq_of_beq h1) g.nd (RL (Ad:=G.Ad) (pos:=p) (Ag h)).1 (RL (Ag h)).2 fun X sx=>(PK (Ak h) ho _ (g.at sx)).1
theorem fE{α:Type}[BEq α][LawfulBEq α]{a b:α}(h:(a != b)=true):a≠b:=bne_iff_ne.mp h
theorem XJ{k:Bool}{m:ME Fn}{e:Expr}{is:List Nat}{es:List Expr}{j:Nat}{p q:Pos}{G:Gs}(g:Ps k ns Γ G)(ho:B2 false k ns Γ m e=true)(h:ZX ns Γ is es e=true):SS G.U G.xc G.C G.A G.Ad G.Ad G.n ns Γ (.asgT is m) (.Assign [.Tuple es j p] e q):=
 JL (P:=fun is=>SS G.U G.xc G.C G.A G.Ad G.Ad G.n ns Γ (.asgT is m) (.Assign [.Tuple es j p] e q)) h fun i1 i2 h=>JL (P:=fun es=>SS G.U G.xc G.C G.A G.Ad G.Ad G.n ns Γ (.asgT [i1,i2] m) (.Assign [.Tuple es j p] e q)) h fun ta tb h=>
 BH (P:=fun ta=>SS G.U G.xc G.C G.A G.Ad G.Ad G.n ns Γ (.asgT [i1,i2] m) (.Assign [.Tuple [ta,tb] j p] e q)) h fun a pa h=>BH (P:=fun tb=>SS G.U G.xc G.C G.A G.Ad G.Ad G.n ns Γ (.asgT [i1,i2] m) (.Assign [.Tuple [.Name a pa,tb] j p] e q)) h fun b pb h=>
 Fv (P:=fun e=>B2 false k ns Γ m e=true->SS G.U G.xc G.C G.A G.Ad G.Ad G.n ns Γ (.asgT [i1,i2] m) (.Assign [.Tuple [.Name a pa,.Name b pb] j p] e q)) h (fun vs k2 p2 h=>JL (P:=fun vs=>B2 false k ns Γ m (.Tuple vs k2 p2)=true->SS G.U G.xc G.C G.A G.Ad G.Ad G.n ns Γ (.asgT [i1,i2] m) (.Assign [.Tuple [.Name a pa,.Name b pb] j p] (.Tuple vs k2 p2) q)) h fun v1 v2 h ho=>
  RR (Ag (Ag (Ag (Ag (Ag h))))) (Ak (Ag (Ag (Ag (Ag h))))) (eq_of_beq (Ag (Ak (Ag (Ag (Ag h)))))) (eq_of_beq (Ak (Ak (Ag (Ag (Ag h)))))) (Ag (Ak (Ag (Ag h)))) (fE (Ak (Ak (Ag (Ag h))))) (nt (Ag (Ak (Ag h)))) (nt (Ak (Ak (Ag h)))) (fE (Ag (Ak h))) (eq_of_beq (Ag (Ak (Ak h)))) (eq_of_beq (Ak (Ak (Ak h)))) g.nd (M0 ho g)) ho
theorem W7{k:Bool}{m:ME Fn}{e:Expr}{is:List Nat}{es:List Expr}{j:Nat}{p q:Pos}{G:Gs}(g:Ps k ns Γ G)(ho:B2 false k ns Γ m e=true)(hc:NJ e=true)(h:Pa ns Γ is es=true):SS G.U G.xc G.C G.A G.Ad G.Ad G.n ns Γ (.asgT is m) (.Assign [.Tuple es j p] e q):=by
 obtain⟨tg,hl,hi⟩:=Sj h
 exact Uq hc hl hi g.nd (M0 ho g)
mutual
theorem PV:∀m:MS Fn,cA m
 | .asg i m=>fun k ns Γ st h=>D0 (P:=B6 k ns Γ (.asg i m)) h fun ts e p h=>Db (P:=fun ts=>B6 k ns Γ (.asg i m) (.Assign ts e p)) h fun t h=>BH (P:=fun t=>B6 k ns Γ (.asg i m) (.Assign [t] e p)) h fun nm px h G g=>
  ((Bool.or_eq_true _ _).mp (Ak h)).elim (Ug g (Ag (Ag h)) (Ak (Ag h))) fun h2=>XT (Ag h2) (eq_of_beq (Ag (Ag h))) g.nd (Ak h2) (M0 (Ak (Ag h)) g)
 | .asgT is m=>fun k ns Γ st h=>D0 (P:=B6 k ns Γ (.asgT is m)) h fun ts e p h=>Db (P:=fun ts=>B6 k ns Γ (.asgT is m) (.Assign ts e p)) h fun t h=>Fv (P:=fun t=>B6 k ns Γ (.asgT is m) (.Assign [t] e p)) h fun es j q h G g=>
  ((Bool.or_eq_true _ _).mp (Ak h)).elim (XJ g (Ag h)) fun h2=>W7 g (Ag h) (Ag h2) (Ak h2)
 | .setA o a m=>fun k ns Γ st h=>D0 (P:=B6 k ns Γ (.setA o a m)) h fun ts e p h=>Db (P:=fun ts=>B6 k ns Γ (.setA o a m) (.Assign ts e p)) h fun t h=>DC (P:=fun t=>B6 k ns Γ (.setA o a m) (.Assign [t] e p)) h fun x nm q h=>bq (P:=fun nm=>B6 k ns Γ (.setA o a m) (.Assign [.Attribute x nm q] e p)) (Ag h) fun G g=>
  TY g.al.uf (Ak (Ag (Ak h))) (NK (Ag (Ag (Ak h)))) (M0 (Ag (Ak (Ak h))) g) (M0 (Ak (Ak (Ak h))) g)
 | .setI o i m=>fun k ns Γ st h=>D0 (P:=B6 k ns Γ (.setI o i m)) h fun ts e p h=>Db (P:=fun ts=>B6 k ns Γ (.setI o i m) (.Assign ts e p)) h fun t h=>DD (P:=fun t=>B6 k ns Γ (.setI o i m) (.Assign [t] e p)) h fun x j q h G g=>
  U5 (Ag h) (M0 (Ag (Ak h)) g) (M0 (Ag (Ak (Ak h))) g) (M0 (Ak (Ak (Ak h))) g)
 | .augL i m=>fun k ns Γ st h=>JG (P:=B6 k ns Γ (.augL i m)) h fun t op e p h=>bq (P:=fun op=>B6 k ns Γ (.augL i m) (.AugAssign t op e p)) (Ag h) (BH (P:=fun t=>B6 k ns Γ (.augL i m) (.AugAssign t .Add e p)) (Ak h) fun nm px h G g=>US (eq_of_beq (Ag h)) g.nd (eq_of_beq (Ag (Ak h))) (M0 (Ak (Ak h)) g))
 | .ex m=>fun k ns Γ st h=>QT (P:=B6 k ns Γ (.ex m)) h fun e p h G g=>Zf (Ag h) (M0 (Ak h) g)
 | .ret m=>fun k ns Γ st h=>Gj (P:=B6 k ns Γ (.ret m)) h fun o p h=>FQ (P:=fun o=>B6 k ns Γ (.ret m) (.Return o p)) h fun e h G g=>XC (M0 h g)
 | .ret0=>fun k ns Γ st h=>Gj (P:=B6 k ns Γ .ret0) h fun o p h=>HB (P:=fun o=>B6 k ns Γ .ret0 (.Return o p)) h fun G g=>Uu
 | .ifs c t e=>fun k ns Γ st h=>WN (P:=B6 k ns Γ (.ifs c t e)) h fun ec bt be p h G g=>W4 (gW (Ag h) g) (Cu t _ _ _ _ (Ag (Ak h)) G g) (Cu e _ _ _ _ (Ak (Ak h)) G g)
 | .forN i m b=>fun k ns Γ st h=>HW (P:=B6 k ns Γ (.forN i m b)) h fun t it body el p h=>e0 (P:=fun el=>B6 k ns Γ (.forN i m b) (.For t it body el p)) (Ag h) (BH (P:=fun t=>B6 k ns Γ (.forN i m b) (.For t it body [] p)) (Ak h) fun nm px h=>FY (P:=fun it=>B6 k ns Γ (.forN i m b) (.For (.Name nm px) it body [] p)) (Ak h) fun p2 e p3 hg hs h2 G g=>
  T0 g.al.ub rfl hg hs (eq_of_beq (Ag (Ag h))) g.nd (Ak (Ag h)) (M0 (Ag h2) g) (Cu b _ _ _ _ (Ak h2) G g))
 | .forR i m m2 b=>fun k ns Γ st h=>HW (P:=B6 k ns Γ (.forR i m m2 b)) h fun t it body el p h=>e0 (P:=fun el=>B6 k ns Γ (.forR i m m2 b) (.For t it body el p)) (Ag h) (BH (P:=fun t=>B6 k ns Γ (.forR i m m2 b) (.For t it body [] p)) (Ak h) fun nm px h=>Ks (P:=fun it=>B6 k ns Γ (.forR i m m2 b) (.For (.Name nm px) it body [] p)) (Ak h) fun p2 e e2 p3 hg hs h2 G g=>
  U7 g.al.ub rfl hg hs (Ag h2) (eq_of_beq (Ag (Ag h))) g.nd (Ak (Ag h)) (M0 (Ag (Ak h2)) g) (M0 (Ag (Ak (Ak h2))) g) (Cu b _ _ _ _ (Ak (Ak (Ak h2))) G g))
 | .forE i m b=>fun k ns Γ st h=>HW (P:=B6 k ns Γ (.forE i m b)) h fun t e body el p h=>e0 (P:=fun el=>B6 k ns Γ (.forE i m b) (.For t e body el p)) (Ag h) (BH (P:=fun t=>B6 k ns Γ (.forE i m b) (.For t e body [] p)) (Ak h) fun nm px h G g=>
  TU rfl (Ag (Ak h)) (eq_of_beq (Ag (Ag h))) g.nd (Ak (Ag h)) (M0 (Ag (Ak (Ak h))) g) (Cu b _ _ _ _ (Ak (Ak (Ak h))) G g))
 | .forD i m b=>fun k ns Γ st h=>HW (P:=B6 k ns Γ (.forD i m b)) h fun t e body el p h=>e0 (P:=fun el=>B6 k ns Γ (.forD i m b) (.For t e body el p)) (Ag h) (BH (P:=fun t=>B6 k ns Γ (.forD i m b) (.For t e body [] p)) (Ak h) fun nm px h G g=>
  VG rfl (Ag (Ak h)) (eq_of_beq (Ag (Ag h))) g.nd (Ak (Ag h)) (M0 (Ag (Ak (Ak h))) g) fun a o=>Cu b _ _ _ _ (Ak (Ak (Ak h))) { G with U:=G.U.pinAt a o} ⟨g.nd,g.al.pin,g.rm,fun q=>nf q⟩)
 | .raise m=>fun k ns Γ st h=>PZ (P:=B6 k ns Γ (.raise m)) h fun x c p h=>HB (P:=fun c=>B6 k ns Γ (.raise m) (.Raise x c p)) (Ag h) (FQ (P:=fun x=>B6 k ns Γ (.raise m) (.Raise x none p)) (Ak h) fun e h=>JY (P:=fun e=>B6 k ns Γ (.raise m) (.Raise (some e) none p)) h fun p1 es q hg h=>Db (P:=fun es=>B6 k ns Γ (.raise m) (.Raise (some (.Call (.Name "Refusal" p1) es [] q)) none p)) h fun a h=>
  ML (P:=fun a=>B6 k ns Γ (.raise m) (.Raise (some (.Call (.Name "Refusal" p1) [a] [] q)) none p)) h fun j pj G g=>by
   obtain⟨Ce,D,fI,cd,e,ue⟩:=g.al.ue
   rw[e]
   exact SL ue g.rm hg)
 | .bad=>fun k ns Γ st h G g=>W5
theorem Cu:∀ms:List (MS Fn),aL ms
 | []=>fun k ns Γ st h G g=>e0 (P:=N1 G.U G.xc G.C G.A G.Ad G.Ad G.n ns Γ []) h TO
 | m::ms=>fun k ns Γ st=> @List.casesOn _ (fun st=>Go k ns Γ (m::ms) st=true->∀G:Gs,Ps k ns Γ G->N1 G.U G.xc G.C G.A G.Ad G.Ad G.n ns Γ (m::ms) st) st (fun h=>nf h) fun x r h G g=>
  ((Bool.or_eq_true _ _).mp (Ak h)).elim (fun h2=>Qm (P:=fun m=>N1 G.U G.xc G.C G.A G.Ad G.Ad G.n ns Γ (m::ms) (x::r)) h2 U0) fun h2=>St (PV m _ _ _ _ (Ag h) G g) (Cu ms _ _ _ _ h2 G g)
end
noncomputable def Γf(f:Fn):List Str:=(Sq f).map Str.ofString
noncomputable def Lm(f:Fn):Bool:=decide ((Γf f).Nodup)&&(Γf f).length==(prog f).vars&&decide ((prog f).params<=(prog f).vars)&&(prog f).dflt.all (fun v=>decide (v=.none))&&decide ((prog f).dflt.length<=(prog f).params)
theorem Ng(f:Fn):Lm f=true:=by cases f<;>rfl
inductive Lf(K:Frag)(fa:Fn->Addr)(f:Fn):Prop
 | mk (oc od osl name qual params body scope dV kV doc pm an cdv ct:_) (h0:K.lookup (fa f)=some ⟨oc,od,.func (fnX name qual params body scope [] dV kV doc pm an cdv ct),osl⟩) (h1:codeIn K cdv qual=true) (h2:Qr scope ((Γf f).take (prog f).params)) (h3:Go false scope.names (Γf f) (prog f).body body=true) (h4:∀s args,K.In s.heap->args.length<=(prog f).params->(prog f).params<=args.length+(prog f).dflt.length->BindsTo s (fnX name qual params body scope [] dV kV doc pm an cdv ct) ⟨args,[]⟩ (((Γf f).take (prog f).params).zip (args++List.replicate ((prog f).params - args.length) .none))):Lf K fa f
structure Txt(U:Un)(xc:Value)(fa:Fn->Addr)(Aa:List Int)(bg:Fh):Prop where
 uf:UF U
 ug:UG U
 ub:UB U
 uc:UC U fa
 um:UM U fa
 bg:Tf bg
 Aa:Aa=U.Aa
 gmx:∃t,nsIn U.K mainGlobals "MOST_LENGTH"=some (some (.int 1000000 t))
 ue:∃Ce D fI cd,xc=.ref Ce/\UE U Ce D fI cd
 fns:∀f,Pm f=false->Lf U.K fa f
section
variable{Aa:List Int}{bg:Fh}
theorem Txt.pinned(h:Txt U xc fa Aa bg)(pin:Addr->Option Obj):Txt { U with pin:=pin} xc fa Aa bg:=by
 refine⟨⟨fun c x hx=>let⟨p,q,r⟩:=h.uf.attr c x hx;⟨p,q,r⟩,h.uf.dict,h.uf.seta,h.uf.over⟩,?_,⟨h.ub.blt,h.ub.cls⟩,⟨h.uc.glo,h.uc.keep⟩,⟨h.um.copyG,h.um.copyF,h.um.isFn,h.um.makes,h.um.init,h.um.high,h.um.keepC⟩,h.bg,h.Aa,h.gmx,?_,fun f hf=>h.fns f hf⟩
 .have:=h.ug;cases this;constructor<;>assumption
 .obtain ⟨a,b,c,d,e,f⟩:=h.ue
  refine⟨a,b,c,d,e,?_⟩
  cases f;constructor<;>assumption
theorem Iy:∀{Γ:List Str} {xs:List Value} {i:Nat} {x:Str} {v:Value},Γ.Nodup->Γ[i]? =some x->xs[i]? =some v->(Γ.zip xs).lookup x=some v
 | [],_,_,_,_,_,e,_=>by simp at e
 | _::_,[],_,_,_,_,_,e=>by simp at e
 | y::Γ,w::xs,0,x,v,_,e1,e2=>by
  simp only [List.getElem?_cons_zero,Option.some.injEq]at e1 e2
  subst e1 e2
  rw[List.zip_cons_cons,List.lookup_cons,beq_self_eq_true]
 | y::Γ,w::xs,i+1,x,v,nd,e1,e2=>by
  rw[List.nodup_cons]at nd
  simp only [List.getElem?_cons_succ]at e1 e2
  have JK:(x==y)=false:=by
   refine beq_eq_false_iff_ne.mpr fun q=>nd.1 ?_
   rw[<-q];exact List.mem_of_getElem? e1
  rw[List.zip_cons_cons,List.lookup_cons,JK]
  exact Iy nd.2 e1 e2
theorem C3.nones{sa:Addr}:∀{vs:List V},(∀v ∈ vs,v=.none)->C3 sa ρ vs (List.replicate vs.length .none)
 | [],_=>trivial
 | v::vs,h=>⟨by rw[h v (.head _)];rfl,C3.nones fun w hw=>h w (.tail _ hw)⟩
theorem GZ{Γ:List Str}{xs:List Value}(h:xs.length=Γ.length):(Γ.zip xs).map (·.1)=Γ:=by
 induction Γ generalizing xs with
 | nil=>rfl
 | cons y Γ ih=>cases xs with
  | nil=>cases h
  | cons w xs=>rw[List.zip_cons_cons,List.map_cons,ih (by simpa using h)]
theorem O4{X':Fx}{Ai:PySem.Env}{vs:List V}{xs:List Value}{p q:Nat}(nd:Γ.Nodup)(hp:p<=Γ.length)(hv:C3 U.sa ρ vs xs)(hl:vs.length=p)(hq:q=Γ.length)
  (ld:∀x v,((Γ.take p).zip xs).lookup x=some v->GL X' Ai x v):EO U X' ρ Ai Γ (vs.map some++List.replicate (q - p) Option.none):=by
 refine⟨by simp[hl,hq];exact Nat.add_sub_cancel' ‹_›,fun i v x h1 h2 h3=> ?_⟩
 have hi:i < vs.length:=by
  by_cases hi:i < vs.length
  .exact hi
  .rw [List.getElem?_append_right (by simpa using hi),List.getElem?_replicate]at h1
   split at h1<;>cases h1
 rw[List.getElem?_append_left (by simpa using hi),List.getElem?_map]at h1
 cases hvi:vs[i]? with
 | none=>rw[hvi]at h1;cases h1
 | some w=>
  rw[hvi]at h1
  cases h1
  obtain⟨y,hy,ry⟩:=hv.get hvi
  refine⟨y,ry,ld x y (Iy (nd.sublist (List.take_sublist _ _)) (i:=i) ?_ hy)⟩
  rw[List.getElem?_take,if_pos (by exact g3 ‹_› ‹_›)]
  exact h2
theorem VD(d:Nat):∀U:Un,Txt U xc fa Aa bg->Hm U xc fa d (DY prog Aa bg initOf d):=by
 induction d with
 | zero=>
  intro U tx f A X Ad ρ H s vs vs' R hf cx x hv hp
  exact hp.elim
 | succ d ih=>
  intro U tx f A X Ad ρ H s vs vs' R hf cx x hv hp
  have sh:=Ng f
  unfold Lm at sh
  simp only [DN,decide_eq_true_eq,List.all_eq_true]at sh
  obtain⟨⟨⟨⟨nd,Ba⟩,hpv⟩,hdf⟩,hdl⟩:=sh
  have Ba:=eq_of_beq Ba
  rw[DY]at hp
  by_cases hc:(vs++List.drop (vs.length+(prog f).dflt.length - (prog f).params) (prog f).dflt).length=(prog f).params/\vs.length+(prog f).dflt.length ≥ (prog f).params
  .rw [if_pos hc]at hp
   obtain⟨oc,od,osl,name,qual,params,body,scope,dV,kV,doc,pm,an,cdv,ct,hl,hcd,sc,Ls,hb⟩:=tx.fns f hf
   have KI:=cx.gf.K.keeps x.fr.keep
   have hvl:=hv.length
   have hp':vs.length<=(prog f).params:=by have:=hc.1;rw[Qu]at this;exact Nat.le.intro this
   have hb':=hb s vs' KI (by rw[hvl];exact hp') (by rw[hvl];exact hc.2)
   have rm:DK A d (7+1):=⟨by have:=cx.hd;exact dA ‹_› (by rfl),by have:=cx.hu;exact dH ‹_› (by rfl)⟩
   have cxd:Cx U A X Ad d:=⟨cx.B,cx.hA,cx.hf,cx.hk,cx.hh,by have:=cx.hd;exact qR ‹_›,by have:=cx.hu;exact gX ‹_›,cx.gf⟩
   have dl:(List.drop (vs.length+(prog f).dflt.length - (prog f).params) (prog f).dflt).length=(prog f).params - vs'.length:=by rw[hvl];have:=hc.1;rw[Qu]at this;exact Nat.eq_sub_of_add_eq' this
   have Ec:C3 U.sa ρ (vs++List.drop (vs.length+(prog f).dflt.length - (prog f).params) (prog f).dflt) (vs'++List.replicate ((prog f).params - vs'.length) .none):=by
    refine hv.append ?_
    rw[<-dl]
    exact C3.nones fun v hm=>hdf v (List.mem_of_mem_drop hm)
   have bn:(((Γf f).take (prog f).params).zip (vs'++List.replicate ((prog f).params - vs'.length) .none)).map (·.1)=(Γf f).take (prog f).params:=by
    refine GZ ?_
    rw[Qu,List.length_replicate,List.length_take,Ba];exact i3 (hvl▸hp') ‹_›
   refine Wh (k:=7) (xc:=xc) cxd rm x (by rw[bn];exact sc) (KI _ _ hl) rfl (codeRec_of KI hcd) hb' fun X' h₁ tk Ai B8 hex hbase bS rm' sx' x' ld=> ?_
   have al:Al U xc fa d { Aa:=Aa,bg:=bg,initOf:=initOf,call:=DY prog Aa bg initOf d}:=
    ⟨tx.uf,tx.ug,tx.ub,tx.uc,tx.um,tx.bg,tx.Aa,rfl,tx.gmx,fun pin=>ih _ (tx.pinned pin),tx.ue⟩
   have rm3:DK (A.deeper Ai) d 3:=⟨by have:=rm'.1;exact dA ‹_› (by rfl),by have:=rm'.2;exact dA ‹_› (by rfl)⟩
   refine Cu (prog f).body false scope.names (Γf f) body Ls ⟨U,xc,fa,d,_,A.deeper Ai,Ai⟩ ⟨nd,al,rm3,fun q=>nf q⟩ X' ρ H _ _ _ _ sx' x' (O4 nd (by rw[Ba];exact hpv) Ec hc.1 Ba.symm ld) ?_
   unfold bnd at hp
   cases e:Am { Aa:=Aa,bg:=bg,initOf:=initOf,call:=DY prog Aa bg initOf d} (prog f).body ((vs++List.drop (vs.length+(prog f).dflt.length - (prog f).params) (prog f).dflt).map some++List.replicate ((prog f).vars - (prog f).params) Option.none) H with
   | bad=>rw[e]at hp;exact hp
   | exc m H1=>
    rw[e]at hp
    exact fun X'' ρ' e' h' CG sm l x2=>⟨X'',ρ',H1,m,e',rfl,sm,x2,fun h'' x3=>hp ρ' e' h'' CG l x3⟩
   | ok r H1=>
    rw[e]at hp
    obtain⟨vs2,fl⟩:=r
    intro X'' ρ' h' CG sm sxx l F eo2
    have sub:(X.withEx X.ex).px.Sublist X''.ex:=by rw[sm.ex,hex];exact List.Sublist.refl _
    cases fl with
    | none=>exact⟨X'',X.ex,ρ',H1,.none,sm.G,sub,F,rfl,fun FX=>hp ρ' .none h' CG l FX rfl⟩
    | some v=>exact fun v' r=>⟨X'',X.ex,ρ',H1,v',sm.G,sub,F,rfl,fun FX=>hp ρ' v' h' CG l FX r⟩
  .rw [if_neg hc]at hp;exact hp.elim
end
set_option tactic.hygienic true in
theorem JH{q:Pos}{a b:Int}{c cv:Value}:∀{l:List Value},TriplesOk l->codeAmong q (l++[rawInt a,rawInt b,c])=some cv->codeAmong q l=some cv\/cv=c:=by
 intro l h
 fun_induction TriplesOk l with
 | case1=>
  intro e
  simp only [List.nil_append,codeAmong,rawInt]at e
  split at e
  .exact .inr (Option.some.inj e).symm
  .cases e
 | case2 x t y u z rest ih=>
  intro e
  simp only [List.cons_append,codeAmong]at e ⊢
  split at e
  .rename_i q;rw[if_pos q];exact .inl e
  .rename_i q;rw[if_neg q];exact ih h e
 | case3=>exact h.elim
section
variable{lp:Pos}{c:Addr}{params:Arguments}{body:Expr}{sc:Scope}
structure II(ns:Dm)(Γ:List Str)(params:Arguments)(sc:Scope):Prop where
 ps:params=⟨[],[],none,[],[],none,[]⟩
 kind:sc.kind=.function
 co:sc.isCoroutine=false
 gen:sc.isGenerator=false
 all:∀p ∈ sc.names,(p.2=.free/\ns.lookup p.1=some .cell/\p.1 ∈ Γ)\/p.2=.globalImplicit
theorem R8(h:SR ns Γ params sc=true):II ns Γ params sc:=by
 obtain⟨a1,a2,a3,a4,a5,a6,a7⟩:=params
 have h1:=Ag (Ag (Ag h))
 refine⟨?_,eq_of_beq (Ak h1),nt (Ak (Ag (Ag h))),nt (Ak (Ag h)),fun p hp=> ?_⟩
 .have h1:=Ag h1
  exact e0 (P:=fun a=>Arguments.mk a a2 a3 a4 a5 a6 a7=_) (Ag (Ag (Ag (Ag (Ag (Ag h1))))))<|e0 (P:=fun a=>Arguments.mk [] a a3 a4 a5 a6 a7=_) (Ak (Ag (Ag (Ag (Ag (Ag h1))))))<|HB (P:=fun a=>Arguments.mk [] [] a a4 a5 a6 a7=_) (Ak (Ag (Ag (Ag (Ag h1)))))<|
   e0 (P:=fun a=>Arguments.mk [] [] none a a5 a6 a7=_) (Ak (Ag (Ag (Ag h1))))<|e0 (P:=fun a=>Arguments.mk [] [] none [] a a6 a7=_) (Ak (Ag (Ag h1)))<|HB (P:=fun a=>Arguments.mk [] [] none [] [] a a7=_) (Ak (Ag h1))<|e0 (P:=fun a=>Arguments.mk [] [] none [] [] none a=_) (Ak h1) rfl
 .exact ((Bool.or_eq_true _ _).mp (List.all_eq_true.mp (Ak h) p hp)).elim (fun q=> .inr (eq_of_beq q)) fun q=> .inl ⟨eq_of_beq (Ag (Ag q)),eq_of_beq (Ak (Ag q)),NK (Ak q)⟩
theorem II.cells(k:II ns Γ params sc)(ek:AJ X Ad env ns):∀p ∈ sc.names,p.2=.free->(env.cells.lookup p.1).isSome=true:=fun p hp e=>by
 rcases k.all p hp with⟨_,h,_⟩ | h
 .refine ek.hc p.1 (.inl ?_)
  unfold PySem.Env.kindOf
  rw[ek.names];exact h
 .rw [h]at e;cases e
inductive FS.tabI(U:Un)(X:Fx)(ρ:A9)(H:MH)(h:Heap)(Pn:Addr):Prop
 | mk (ps:_) (codes:_) (q0:h.get? Pn=some (tabObj ps)) (q1:X.G.get? Pn=none) (q2:Pn≠X.L) (q3:TriplesOk ps.toList) (q4:Lp ps.toList codes) (q5:(∀q ∈ codes,h.get? q.1=some q.2)) (q6:∀f o ps' new h',(∀b o,b≠Pn->h.get? b=some o->h'.get? b=some o)->h'.get? Pn=some (tabObj ps')->TriplesOk ps'.toList->Lp ps'.toList (new++codes)->(∀q ∈ new,h.objs.size<=q.1/\q.1 < f/\h'.get? q.1=some q.2)->By new->h.objs.size<=f->h'.get? f=some o->AL U (X.withEx ((f,o)::X.ex)) ρ H h'):FS.tabI U X ρ H h Pn
theorem FS.tab{Pn:Addr}(x:AL U X ρ H h)(h0:H[0]? =some .tab)(hPn:U.tabA=Pn):FS.tabI U X ρ H h Pn:=by
 obtain⟨F,ps,p,N,D,lo⟩:=x
 obtain⟨a,l,pre,post,e1,e2,⟨pt,codes,rfl,ea,tok,cin⟩,back⟩:=p.at h0
 subst e2
 obtain rfl:Pn=a.1:=hPn.symm.trans ea.symm
 have hH:H.set 0 .tab=H:=by
  cases H with
  | nil=>rfl
  | cons c r=>simp only [List.getElem?_cons_zero,Option.some.injEq]at h0;rw[h0];rfl
 have back:=fun l' z=>hH▸back .tab l' z
 have mem:∀q ∈ (a.1,tabObj pt)::codes,q ∈ X.px++(pre++((a.1,tabObj pt)::codes)::post).flatten:=fun q hq=>by
  refine Da _ ?_
  rw[List.flatten_append,List.flatten_cons]
  exact Da _ (B0 _ hq)
 have NP:=N _ (mem _ (.head _))
 refine⟨pt,codes,NP.1,NP.2.2,NP.2.1,tok,cin,fun q hq=>(N q (mem q (.tail _ hq))).1,fun f o ps' new h' k1 k2 t' c' hn dn hf ho=> ?_⟩
 have hs:∀q ∈ X.px++(pre++((a.1,tabObj pt)::codes)::post).flatten,q.1 < h.objs.size:=fun q hq=>Heap.lt_size (N q hq).1
 have hLs:X.L < h.objs.size:=F.ns.lt
 have fresh:∀b,h.objs.size<=b->X.G.get? b=none:=fun b hb=>Heap.get?_none_of_le (Nat.le_trans F.above (Nat.le_trans (Nat.le_of_lt hLs) hb))
 refine⟨⟨F.ns.extBut (fun b o hb q=>k1 b o hb q) (Ne.symm NP.2.1),fun b o q=>k1 b o (fun z=> ?_) (F.keep b o q),F.above⟩,pre++((a.1,tabObj ps')::(new++codes))::post,back _ ⟨ps',new++codes,rfl,ea,t',c'⟩,?_,?_,?_⟩
 .rw [z,NP.2.2]at q;cases q
 .have w0:X.px++(pre++((a.1,tabObj pt)::codes)::post).flatten=(X.px++pre.flatten)++(a.1,tabObj pt)::(codes++post.flatten):=by simp
  rw[w0]at N D
  intro q hq
  have hq':q=(f,o)\/q=(a.1,tabObj ps')\/q ∈ new\/(q ∈ X.px++pre.flatten\/q ∈ codes++post.flatten):=by
   simp only [Fx.px,List.flatten_append,List.flatten_cons,List.mem_append,List.mem_cons]at hq ⊢
   rcases hq with(h | h | h) | h | (h | h | h) | h
   .exact .inr (.inr (.inr (.inl (.inl (.inl h)))))
   .exact .inl h
   .exact .inr (.inr (.inr (.inl (.inl (.inr h)))))
   .exact .inr (.inr (.inr (.inl (.inr h))))
   .exact .inr (.inl h)
   .exact .inr (.inr (.inl h))
   .exact .inr (.inr (.inr (.inr (.inl h))))
   .exact .inr (.inr (.inr (.inr (.inr h))))
  have apart:∀q,q ∈ X.px++pre.flatten\/q ∈ codes++post.flatten->q.1≠a.1:=by
   have d:=BQ List.perm_middle D
   unfold By at d
   rw[List.map_cons,List.nodup_cons]at d
   intro q hq z
   refine d.1 (List.mem_map.mpr ⟨q,?_,z⟩)
   exact List.mem_append.mpr hq
  rcases hq' with rfl | rfl | h | h
  .exact ⟨ho,Nat.ne_of_gt (Nat.lt_of_lt_of_le hLs hf),fresh _ hf⟩
  .exact ⟨k2,NP.2⟩
  .have:=hn q h
   exact⟨this.2.2,Nat.ne_of_gt (Nat.lt_of_lt_of_le hLs this.1),fresh _ this.1⟩
  .have y:=N q (by
    rcases h with h | h
    .exact B0 _ h
    .exact Da _ (.tail _ h))
   exact⟨k1 _ _ (apart q h) y.1,y.2⟩
 .have pm:((X.withEx ((f,o)::X.ex)).px++(pre++((a.1,tabObj ps')::(new++codes))::post).flatten).Perm ((f,o)::new++(X.px++(pre++((a.1,tabObj ps')::codes)::post).flatten)):=by
   have e1:(X.withEx ((f,o)::X.ex)).px++(pre++((a.1,tabObj ps')::(new++codes))::post).flatten=X.own++(f,o)::((X.ex++pre.flatten++[(a.1,tabObj ps')])++new++(codes++post.flatten)):=by simp[Fx.px]
   have e2:(f,o)::new++(X.px++(pre++((a.1,tabObj ps')::codes)::post).flatten)=(f,o)::(new++(X.own++(X.ex++pre.flatten++[(a.1,tabObj ps')]))++(codes++post.flatten)):=by simp[Fx.px]
   rw[e1,e2]
   refine List.perm_middle.trans (List.Perm.cons _ ?_)
   have:=(List.perm_append_comm (l₁:=X.own++(X.ex++pre.flatten++[(a.1,tabObj ps')])) (l₂:=new)).append_right (codes++post.flatten)
   simpa only [List.append_assoc]using this
  refine BQ pm.symm ?_
  have D':By (X.px++(pre++((a.1,tabObj ps')::codes)::post).flatten):=by
   unfold By at D ⊢
   simpa using D
  have hs':∀q ∈ X.px++(pre++((a.1,tabObj ps')::codes)::post).flatten,q.1 < h.objs.size:=fun q hq=>by
   have:q.1 ∈ (X.px++(pre++((a.1,tabObj pt)::codes)::post).flatten).map (·.1):=by
    have:=List.mem_map_of_mem (f:=(·.1)) hq
    simpa using this
   obtain⟨r,hr,e⟩:=List.mem_map.mp this
   rw[<-e];exact hs r hr
  refine Gw D' ?_ fun p hp q hq=> ?_
  .unfold By at dn ⊢
   rw[List.map_cons,List.nodup_cons]
   refine⟨fun hm=> ?_,dn⟩
   obtain⟨r,hr,e⟩:=List.mem_map.mp hm
   exact Nat.lt_irrefl _ (Nat.lt_of_lt_of_eq (hn r hr).2.1 e.symm)
  .rcases List.mem_cons.mp hp with rfl | hp
   .exact Nat.lt_of_lt_of_le (hs' q hq) hf
   .exact Nat.lt_of_lt_of_le (hs' q hq) (hn p hp).1
 .intro q hq
  simp only [List.flatten_append,List.flatten_cons,List.mem_append,List.mem_cons]at hq
  have hP3:3 < a.1:=lo (a.1,tabObj pt) (by simp)
  rcases hq with h | (rfl | h | h) | h
  .exact lo q (by simp[h])
  .exact hP3
  .exact Nat.lt_of_lt_of_le hP3 (Nat.le_trans (Nat.le_of_lt (hs _ (mem _ (.head _)))) (hn q h).1)
  .exact lo q (by simp[h])
  .exact lo q (by simp[h])
theorem S2{Q:Value->Shared->Prop}(cx:Cx U A X Ad n)(ek:AJ X Ad env ns)(hcode:env.code=.ref c)(hCd:CodeHd X.G c U.tabA)(hq:env.qual++"<lambda>"=CU)(x:AL U X ρ H s.heap)(h0:H[0]? =some .tab)(k:II ns Γ params sc)
  (h:∀f pm c' ctv h' tk,AL U (X.withEx ((f,kla_obj "<lambda>" CU params body sc (Bl env.cells sc.names []) pm c' ctv)::X.ex)) ρ H h'->h'.CodeRec (.ref c') CU->Q (.ref f) { s with heap:=h',toks:=tk}):
  wpAny (model U.prog U.w) A (eval (.Lambda params body sc lp) env) Q E s:=by
 refine kla_eval (by rw[k.ps];rfl) ?_
 rw[hq]
 have T:=cx.gf.T
 have F:=x.fr
 obtain⟨ps,codes,g1,g2,g3,tok,cin,gc,re⟩:=FS.tab x h0 rfl
 have hgs:=T.g.keeps F.keep
 obtain⟨bm,ob,b1,b2,b3,b4,b5,b6⟩:=T.bmain
 have hgP:mainGlobals≠U.tabA:=fun q=>by
  obtain⟨o,es,ep,e,hd,_⟩:=hgs
  rw[q,g1]at e;cases e;cases hd
 have hbP:bm≠U.tabA:=fun q=>by
  have e:=F.keep _ _ b3
  rw[q,g1]at e;cases e;cases b4
 have hbG:bm≠mainGlobals:=fun q=>by
  obtain⟨o,es,ep,e,hd,_⟩:=T.g
  rw[q,e]at b3;cases b3;rw[hd]at b6;cases b6
 cases hf:codeAmong lp ps.toList with
 | none=>
  refine kla_makeFunction (mg:=U.mg) (CC (k.cells ek)) ek.glo hgs hcode (hCd.keeps F.keep) g1 tok hf hgP ⟨bm,ob,b1,b2,hbG,hbP,F.keep _ _ b3,b4,b5,b6⟩ fun c' ctv h' tk hx hge Ef hrec htb=> ?_
  obtain⟨c₂,oc,vs,t,e2,hoc,hd,hv⟩:=hrec
  cases e2
  have hp:∀b o,h'.get? b=some o->(h'.push (kla_obj "<lambda>" CU params body sc (Bl env.cells sc.names []) ((U.mg "__name__").getD .none) c' ctv)).get? b=some o:=fun b o e=>Ds _ e
  refine h _ _ c' ctv _ tk (re _ _ _ [(c',oc)] _ (fun b o hb e=>hp b o (hx b o hb e)) (hp _ _ htb) ?_ ?_ ?_ ?_ (Nat.le_of_lt (Nat.lt_of_le_of_lt hge Ef)) (Heap.get?_push_size _ rfl)) ⟨c',oc,vs,t,rfl,hp _ _ hoc,hd,hv⟩
  .rw [Array.toList_append];exact TriplesOk_snoc _ _ _ _ tok
  .intro q cv e
   rw[Array.toList_append]at e
   rcases JH tok e with e | rfl
   .obtain ⟨a,b,c,d,e1,e2,e3⟩:=cin q cv e
    exact⟨a,b,c,d,e1,.tail _ e2,e3⟩
   .exact ⟨c',oc,vs,t,rfl,.head _,hd,hv⟩
  .intro q hq
   rcases List.mem_singleton.mp hq with rfl
   exact⟨hge,Ef,hp _ _ hoc⟩
  .exact List.nodup_cons.mpr ⟨by simp,List.nodup_nil⟩
 | some cv=>
  obtain⟨c',oc,vs,t,rfl,hm,hd,hv⟩:=cin lp cv hf
  refine kla_makeFunctionHit (mg:=U.mg) (CC (k.cells ek)) ek.glo hgs hcode (hCd.keeps F.keep) g1 tok hf ⟨bm,ob,b1,b2,hbG,hbP,F.keep _ _ b3,b4,b5,b6⟩ fun ctv h' tk hk hsz=> ?_
  have hp:∀b o,s.heap.get? b=some o->(h'.push (kla_obj "<lambda>" CU params body sc (Bl env.cells sc.names []) ((U.mg "__name__").getD .none) c' ctv)).get? b=some o:=fun b o e=>Ds _ (hk b o e)
  refine h _ _ c' ctv _ tk (re _ _ ps [] _ (fun b o J e=>hp b o e) (hp _ _ g1) tok (by simpa using cin) (by intro q hq;cases hq) List.nodup_nil hsz (Heap.get?_push_size _ rfl)) ⟨c',oc,vs,t,rfl,hp _ _ (gc _ hm),hd,hv⟩
end
section
variable{X0:Fx}{lenv lf:PySem.Env}{lp:Pos}{c:Addr}{params:Arguments}{body:Expr}{sc:Scope}{R:Result->Shared->Prop}
theorem BS{l:Dm}{x:Str}{k:NameKind}(e:l.lookup x=some k):(x,k) ∈ l:=by
 induction l with
 | nil=>cases e
 | cons p r ih=>
  rw[List.lookup_cons]at e
  cases q:x==p.1 with
  | true=>rw[q]at e;cases e;rw[eq_of_beq q];exact .head _
  | false=>rw[q]at e;exact .tail _ (ih e)
theorem II.lk(k:II ns Γ params sc){x:Str}(h:sc.names.lookup x=some .local\/sc.names.lookup x=some .cell\/sc.names.lookup x=some .free):sc.names.lookup x=some .free/\ns.lookup x=some .cell:=by
 rcases h with h | h | h
 .rcases k.all _ (BS h)with⟨e,_⟩ | e<;>cases e
 .rcases k.all _ (BS h)with⟨e,_⟩ | e<;>cases e
 .rcases k.all _ (BS h)with⟨_,e,_⟩ | e
  .exact ⟨h,e⟩
  .cases e
set_option tactic.hygienic true in
theorem SK{m:ME Fn}{f c':Addr}{pm ctv:Value}(cx:Cx U A X Ad n)(hr:DK A n 2)(x:AL U X ρ H s.heap)(k:II ns Γ params sc)(lek:AJ X0 lf lenv ns)(eo:EO U X0 ρ lenv Γ vs)(hsub:∀p ∈ X0.px,p ∈ X.px)
  (ho:(f,kla_obj "<lambda>" CU params body sc (Bl lenv.cells sc.names []) pm c' ctv) ∈ X.px) (hcd:s.heap.CodeRec (.ref c') CU)
  (hse:∀A' X' Ai,Cx U A' X' Ai n->DK A' n 1->AJ X' Ai Ai sc.names->SE U xc C A' X' Ai Γ m body)
  (hp:Ae (Aq U) U xc X ρ (Ac C m vs H) (fun v s'=>R (.ok (.ret v)) s') (fun e s'=>R (.error e) s') s):
  codeAny (model U.prog U.w) A (.call (.ref f) ⟨[],[]⟩) R s:=by
 obtain⟨A₀,outer,B,hl⟩:=cx.B
 have hA:=cx.hA
 obtain⟨F,ps,p,N,D,lo⟩:=x
 have hA':=hA
 rw[hl]at hA'
 refine kla_code (binds:=[]) (news:=X.px++ps.flatten) B F cx.gf.K N cx.gf.T hA' cx.hf cx.hk (B0 _ ho) hcd (by have:=cx.hd;exact Nat.lt_of_le_of_lt (Nat.le_trans (Nat.le_add_right _ _) (Nat.le_add_right _ _)) ‹_›) (by rw[k.ps];rfl) (by intro y hy;cases hy) (fun g L' h₁ FG F' N' BG _ _=> ?_) k.co k.gen k.kind ?_
 .generalize B8:envX CU sc L' f (.ref c') (Bl lenv.cells sc.names [])=Ai
  let X':Fx:={ G:=g,L:=L',m:=fun y=>([]:List (Str×Value)).reverse.lookup y,own:=[],ex:=X.px,base:=X.base,l:=Ai::X.l}
  have hcells:Ai.cells=Bl lenv.cells sc.names []:=by rw[<-B8]
  have hnames:Ai.scope.names=sc.names:=by rw[<-B8]
  have hkd:∀y,Ai.kindOf y=sc.names.lookup y:=fun y=>by unfold PySem.Env.kindOf;rw[hnames]
  have hlk:∀y,sc.names.lookup y=some .free->(Bl lenv.cells sc.names []).lookup y=lenv.cells.lookup y/\(lenv.cells.lookup y).isSome=true:=fun y hy=>
   ⟨CF _ _ (k.cells lek) (.inl (BS hy)) (.inl rfl),k.cells lek _ (BS hy) rfl⟩
  have gf':GF U g:=cx.gf.keeps FG.keep
  have hdp:(A.deeper Ai).depth=A.depth+1:=rfl
  have hun:(A.deeper Ai).units=A.units+3:=rfl
  have cx':Cx U (A.deeper Ai) X' Ai n:=by
   refine⟨⟨A,X.l,?_,rfl⟩,PySem.Around.frames_deeper hA,by rw[<-B8],by rw[<-B8];exact k.kind,cx.hh,?_,?_,gf'⟩
   .show Below A X.base X.l g
    rw[hl];exact BG
   .rw [hdp];have:=hr.1;exact YT ‹_› (by rfl)
   .rw [hun];have:=hr.2;exact YT ‹_› (by rfl)
  have rm:DK (A.deeper Ai) n 1:=by
   constructor
   .rw [hdp];have:=hr.1;exact dF ‹_› (by rfl)
   .rw [hun];have:=hr.2;exact dF ‹_› (by rfl)
  have ek':AJ X' Ai Ai sc.names:=by
   refine⟨hnames,by rw[<-B8];exact k.kind,by rw[<-B8],by rw[<-B8],by rw[<-B8],fun y hy=> ?_⟩
   rw[hcells]
   rw[hkd]at hy
   have hy':=(k.lk (.inr hy)).1
   rw[(hlk y hy').1];exact(hlk y hy').2
  have eo':EO U X' ρ Ai Γ vs:=by
   refine⟨eo.len,fun i v y h1 h2 h3=> ?_⟩
   rw[hkd]at h3
   have h4:sc.names.lookup y=some .local\/sc.names.lookup y=some .cell\/sc.names.lookup y=some .free:=by
    unfold bF at h3
    split at h3
    .rename_i e;exact .inl e
    .rename_i e;exact .inr (.inl e)
    .rename_i e;exact .inr (.inr e)
    .cases h3
   obtain⟨hf,hn⟩:=k.lk h4
   have hlk':lenv.kindOf y=some .cell:=by unfold PySem.Env.kindOf;rw[lek.names];exact hn
   obtain⟨z,hz,lz⟩:=eo.get i v y h1 h2 (by rw[hlk'];rfl)
   refine⟨z,hz,?_⟩
   rcases lz with⟨e,_⟩ | ⟨_,cc,o,b1,b2,b3⟩ | ⟨e,_⟩
   .rw [hlk']at e;cases e
   .refine .inr (.inl ⟨.inr ((hkd y).trans hf),cc,o,?_,?_,b3⟩)
    .rw [hcells,(hlk y hf).1];exact b1
    .exact Da _ (hsub _ b2)
   .rw [hlk']at e;cases e
  have x':AL U X' ρ H h₁:=⟨F',ps,p,N',D,lo⟩
  refine hse _ X' Ai cx' rm ek' ρ H _ vs _ _ x' eo' ?_
  unfold Ae at hp ⊢
  cases e:Ac C m vs H with
  | bad=>rw[e]at hp;exact hp
  | ok v H1=>
   rw[e]at hp
   intro ρ2 v' h2 tk2 l2 F2 r2
   obtain⟨Fr2,ps2,p2,N2,D2,lo2⟩:=F2
   refine leaveK_ (L':=X'.L) (m':=X'.m) Fr2 N2 fun FX NX=> ?_
   exact hp ρ2 v' h2 tk2 l2 ⟨FX,ps2,p2,NX,D2,lo2⟩ r2
  | exc msg H1=>
   rw[e]at hp
   intro ρ2 e2 h2 tk2 l2 E2
   obtain⟨ps2,h₂,p2,D2,lo2,st2,Fr2,u2⟩:=E2
   refine IB (env:=Ai) (outer:=X.l) (PySem.Around.frames_deeper hA) (by rw[<-B8]) st2 X.L fun h'' k1 k2=>hp ρ2 e2 h'' tk2 l2 ?_
   exact⟨ps2,g,p2,D2,lo2,k1,FG,((Heap.UpToSlots.of_keeps Fr2.keep).trans u2).trans k2⟩
 .intro y hy e
  rcases k.all y hy with⟨q,_⟩ | q<;>rw[q]at e<;>cases e
end
inductive WF(B:Heap)(cls:Value)(e d:Addr)(h:Heap):Prop
 | mk (oe:_) (vs:_) (q0:h.get? e=some oe) (q1:oe.cls=cls) (q2:oe.dict=some d) (q3:oe.data=.fields vs) (q4:vs[1]? =some .none\/∃T oT ts,vs[1]? =some (.ref T)/\B.get? T=none/\T≠e/\h.get? T=some oT/\oT.data=.fields ts/\3 < ts.size):WF B cls e d h
structure Oh(B:Heap)(L L₁:Addr)(mL m1:Str->Option Value)(cls:Value)(e d:Addr)(h:Heap):Prop where
 nsL:h.Ns L mL
 ns1:h.Ns L₁ m1
 st:B.StaysIn h
 eo:WF B cls e d h
section
variable{M:Model}{B:Heap}{L L₁ e d:Addr}{mL m1:Str->Option Value}{cls:Value}
theorem Oh.flight(x:Oh B L L₁ mL m1 cls e d s.heap){Q:Unit->Shared->Prop}(hQ:∀h',Oh B L L₁ mL m1 cls e d h'->Q () { s with heap:=h'}):wpAny M A (setFlight (.ref e) none) Q E s:=by
 obtain⟨a1,a2,a3,oe,vs,h1,h2,h3,h4,h6⟩:=x
 unfold setFlight
 rcases h6 with h6 | ⟨T,oT,ts,h6,h7,h8,h9,h10,h11⟩
 .refine As (wpAny_field h1 h4 h6 ?_)
  rw[if_neg (by decide)]
  exact BE (hQ s.heap ⟨a1,a2,a3,oe,vs,h1,h2,h3,h4,.inl h6⟩)
 .refine As (wpAny_field h1 h4 h6 ?_)
  rw[if_pos (show(Value.ref T != Value.none)=true from by simp)]
  have other:∀b,b≠T->(s.heap.update T (Obj.mapFields (·.setIfInBounds 3 (((none:Option Addr).elim Value.none fun f=>rawInt f))))).get? b=s.heap.get? b:=fun b hb=>Heap.get?_update_other _ _ (Ne.symm hb)
  have ns:∀{a:Addr} {m:Str->Option Value},s.heap.Ns a m->a≠T:=fun hn q=>by
   obtain⟨o,es,ep,ho,hd,_⟩:=hn
   rw[q,h9]at ho;cases ho
   rw[h10]at hd;cases hd
  refine wpAny_setField h9 h10 h11 (hQ _ ⟨?_,?_,?_,oe,vs,(other e (Ne.symm h8)).trans h1,h2,h3,h4,.inr ⟨T,_,_,h6,h7,h8,Heap.get?_update_self _ h9 (Obj.isFreed_of_fields (Obj.data_mapFields h10 _)),Obj.data_mapFields h10 _,by simpa using h11⟩⟩)
  .obtain ⟨o,es,ep,ho,r⟩:=a1
   exact⟨o,es,ep,(other _ (ns ⟨o,es,ep,ho,r⟩)).trans ho,r⟩
  .obtain ⟨o,es,ep,ho,r⟩:=a2
   exact⟨o,es,ep,(other _ (ns ⟨o,es,ep,ho,r⟩)).trans ho,r⟩
  .exact fun b o hb=>(other b fun q=>by rw[q,h7]at hb;cases hb).trans (a3 b o hb)
theorem Oh.over{h h':Heap}{m1':Str->Option Value}(x:Oh B L L₁ mL m1 cls e d h)(hL:L≠L₁)(hB:B.get? L₁=none)(hn:h'.Ns L₁ m1')(hs:Heap.SameBut L₁ h h'):Oh B L L₁ mL m1' cls e d h':=by
 obtain⟨a1,a2,a3,oe,vs,h1,h2,h3,h4,h6⟩:=x
 have nd:∀{a:Addr} {o:Obj} {vs:Array Value},h.get? a=some o->o.data=.fields vs->a≠L₁:=fun ho hd q=>by
  obtain⟨o,es,ep,ho',hd',_⟩:=a2
  rw[q,ho']at ho;cases ho
  rw[hd']at hd;cases hd
 refine⟨?_,hn,fun b o hb=>hs.extBut b o (fun q=>by rw[q,hB]at hb;cases hb) (a3 b o hb),oe,vs,hs.extBut _ _ (nd h1 h4) h1,h2,h3,h4,?_⟩
 .exact a1.extBut hs.extBut hL
 .rcases h6 with h6 | ⟨T,oT,ts,h6,h7,h8,h9,h10,h11⟩
  .exact .inl h6
  .exact .inr ⟨T,oT,ts,h6,h7,h8,hs.extBut _ _ (nd h9 h10) h9,h10,h11⟩
inductive Mt(L:Addr)(L₁:Addr)(e:Addr)(mL:Str->Option Value)(m1:Str->Option Value)(cls:Value)(base:Heap)(h:Heap)(msg:Nat)(news:List (Addr×Obj)):Prop
 | mk (B:_) (d:_) (es:_) (n:_) (t:_) (q0:base.StaysIn B) (q1:(∀q ∈ news,B.get? q.1=some q.2/\base.get? q.1=none)) (q2:B.get? L₁=none) (q3:B.get? L=none) (q4:B.get? d=some (W.dictOf es n)) (q5:getL "message" es=some (some (.str (wd msg) t))) (q6:Oh B L L₁ mL m1 cls e d h):Mt L L₁ e mL m1 cls base h msg news
theorem Vs{base:Heap}{l:List PySem.Env}{h h₂:Heap}{msg:Nat}{news:List (Addr×Obj)}(x:EJ cls base l L₁ e msg news h)(hl:L₁ ∈ l.filterMap (·.frame))(hl2:L ∈ l.filterMap (·.frame))(nL:h₂.Ns L mL)(n1:h₂.Ns L₁ m1)(u:h₂.UpToSlots h):Mt L L₁ e mL m1 cls base h msg news:=by
 obtain⟨B,d,es,n,t,b1,b2,b3,b4,b5,⟨oe,vs,h1,h2,h3,h4,h5,h6⟩,b7,b8⟩:=x
 refine⟨B,d,es,n,t,b1,b2,(b5.mem hl).1,(b5.mem hl2).1,b7,b8,u.ns nL,u.ns n1,b3,oe,vs,h1,h2,h3,h4,?_⟩
 rcases h6 with h6 | ⟨T,oT,ts,h6,h7,h8,h9,h10,h11⟩
 .exact .inl h6
 .refine .inr ⟨T,oT,ts,h6,h7,h8,h9,h10,?_⟩
  rcases h11 with h | h<;>exact(Array.getElem?_eq_some_iff.mp h).1
end
noncomputable abbrev EH(p1 p2 p3 p4 p5 p6 p7 p8 p9:Pos):List Stmt:=
 [.Try [.Return (some (.Call (.Name "ask" p1) [] [] p2)) p3] [.ExceptHandler (some (.Name "Refusal" p4)) (some "error") [.Return (some (.Attribute (.Name "error" p5) "message" p6)) p7] p8] [] [] p9]
inductive SW(U:Un)(fK:Addr):Prop
 | mk (oc od osl name qual params scope dV kV doc pm an cdv ct p1 p2 p3 p4 p5 p6 p7 p8 p9:_) (h0:U.K.lookup fK=some ⟨oc,od,.func (fnX name qual params (EH p1 p2 p3 p4 p5 p6 p7 p8 p9) scope [] dV kV doc pm an cdv ct),osl⟩) (h1:codeIn U.K cdv qual=true) (h2:scope.kind=.function) (h3:scope.isCoroutine=false) (h4:scope.isGenerator=false) (h5:(∀x ∈ scope.names,x.2≠.cell)) (h6:scope.names.lookup ("ask":Str)=some .local) (h7:scope.names.lookup ("error":Str)=some .local) (h8:scope.names.lookup ("Refusal":Str)=some .globalImplicit) (h9:∀s a,U.K.In s.heap->BindsTo s (fnX name qual params (EH p1 p2 p3 p4 p5 p6 p7 p8 p9) scope [] dV kV doc pm an cdv ct) ⟨[a],[]⟩ [("ask",a)]):SW U fK
structure UK(U:Un)(fK:Addr):Prop where
 name:nsIn U.K mainGlobals "_law_kept"=some (some (.ref fK))
 keep:keepIn U.K (.ref fK)=true
 fn:SW U fK
section
variable{Ce D fI fK f:Addr}{cd:ClassData}{R:Result->Shared->Prop}{r:Mine.R V}{o:Obj}
noncomputable def Tm:Mine.R V->Mine.R V
 | .exc e H'=> .ok (.w e) H'
 | r=>r
theorem Cx.framesIn(cx:Cx U A X Ad n):X.L ∈ X.l.filterMap (·.frame):=by
 obtain⟨A₀,outer,_,hl⟩:=cx.B
 rw[hl]
 exact List.mem_filterMap.mpr ⟨Ad,.head _,cx.hf⟩
theorem Nc(uk:UK U fK)(ue:UE U Ce D fI cd)(cx:Cx U A X Ad n)(hr:DK A n 3)(hb:X.base=X.G)(x:AL U (X.withEx ((f,o)::X.ex)) ρ H s.heap)(hfo:∃fd,o.data=.func fd)
  (hrun:∀A₁ X₁ env₁ h₁ tk R',Cx U A₁ X₁ env₁ n->DK A₁ n 2->X₁.px=X.own++(f,o)::X.ex->(∀b o,s.heap.get? b=some o->h₁.get? b=some o)->AL U X₁ ρ H h₁->
   Ae (Aq U) U (.ref Ce) X₁ ρ r (fun v s'=>R' (.ok (.ret v)) s') (fun e s'=>R' (.error e) s') { s with heap:=h₁,toks:=tk}->codeAny (model U.prog U.w) A₁ (.call (.ref f) ⟨[],[]⟩) R' { s with heap:=h₁,toks:=tk})
  (hp:Ae (Aq U) U (.ref Ce) X ρ (Tm r) (fun v s'=>R (.ok (.ret v)) s') (fun e s'=>R (.error e) s') s):
  codeAny (model U.prog U.w) A (.call (.ref fK) ⟨[.ref f],[]⟩) R s:=by
 obtain⟨A₀,outer,B,hl⟩:=cx.B
 have hA:=cx.hA
 obtain⟨oc,od,osl,name,qual,params,scope,dV,kV,doc,pm,an,cdv,ct,p1,p2,p3,p4,p5,p6,p7,p8,p9,hfn,hcd,sk,sco,sgen,scell,sask,serr,sref,bind⟩:=uk.fn
 have KI:=cx.gf.K.keeps x.fr.keep
 obtain⟨F,ps,p,N,D',lo⟩:=x
 have hA':=hA
 rw[hl]at hA'
 obtain⟨FG,BG,st,lv⟩:=groundX (R:=R) (news:=(X.withEx ((f,o)::X.ex)).px++ps.flatten) B F N hA' cx.hf cx.hk
 have hgf:s.heap.get? f=some o:=(N (f,o) (by simp[Fx.px])).1
 refine codeAny_call_def (fd:=fnX name qual params (EH p1 p2 p3 p4 p5 p6 p7 p8 p9) scope [] dV kV doc pm an cdv ct) (body:=EH p1 p2 p3 p4 p5 p6 p7 p8 p9) (binds:=[("ask",.ref f)]) (by have:=cx.hd;exact Nat.lt_of_le_of_lt (Nat.le_trans (Nat.le_add_right _ _) (Nat.le_add_right _ _)) ‹_›) (KI _ _ hfn) rfl (cx.gf.nolimit.keeps F.keep) (codeRec_of KI hcd) rfl (bind _ _ KI) scell (by intro y hy;rcases List.mem_singleton.mp hy with rfl;exact sask) (fun h₁ Dn hk₁=> ?_) sco sgen sk
 generalize B8:callEnv (fnX name qual params (EH p1 p2 p3 p4 p5 p6 p7 p8 p9) scope [] dV kV doc pm an cdv ct) s.heap.objs.size fK=env₁
 generalize hg:hideAll s.heap (((X.withEx ((f,o)::X.ex)).px++ps.flatten).map (·.1))=g at FG BG st lv
 let X₁:Fx:={ G:=g,L:=s.heap.objs.size,m:=fun y=>([("ask",.ref f)]:List (Str×Value)).reverse.lookup y,own:=[],ex:=X.own++(f,o)::X.ex,base:=X.base,l:=env₁::X.l}
 have hfr₁:env₁.frame=some s.heap.objs.size:=by rw[<-B8];rfl
 have hglo:env₁.globals=mainGlobals:=by rw[<-B8];rfl
 have hloc₁:env₁.locals=s.heap.objs.size:=by rw[<-B8];rfl
 have hnames:env₁.scope.names=scope.names:=by rw[<-B8];rfl
 have hkind:env₁.scope.kind=.function:=by rw[<-B8];exact sk
 have hkd:∀y,env₁.kindOf y=scope.names.lookup y:=fun y=>by unfold PySem.Env.kindOf;rw[hnames]
 have gf':GF U g:=cx.gf.keeps st
 have hdp:(A.deeper env₁).depth=A.depth+1:=rfl
 have hun:(A.deeper env₁).units=A.units+3:=rfl
 have F₁:Fr g s.heap.objs.size h₁ X₁.m:=⟨Dn,fun b o e=>hk₁ b o (of_hideAll _ (by rw[hg];exact e)),Nat.le_of_eq (by rw[<-hg];exact hideAll_size _ _)⟩
 have N₁:News g s.heap.objs.size h₁ (X₁.px++ps.flatten):=fun q hq=>⟨hk₁ _ _ (N q hq).1,Nat.ne_of_lt (Heap.lt_size (N q hq).1),by rw[<-hg];exact hideAll_none _ (List.mem_map_of_mem hq)⟩
 have x₁:AL U X₁ ρ H h₁:=⟨F₁,ps,p,N₁,D',lo⟩
 have cx₁:Cx U (A.deeper env₁) X₁ env₁ n:=by
  refine⟨⟨A,X.l,?_,rfl⟩,PySem.Around.frames_deeper hA,hfr₁,hkind,cx.hh,?_,?_,gf'⟩
  .show Below A X.base X.l g
   rw[hl];exact BG
  .rw [hdp];have:=hr.1;exact YT ‹_› (by rfl)
  .rw [hun];have:=hr.2;exact YT ‹_› (by rfl)
 have rm₁:DK (A.deeper env₁) n 2:=by
  constructor
  .rw [hdp];have:=hr.1;exact dF ‹_› (by rfl)
  .rw [hun];have:=hr.2;exact dF ‹_› (by rfl)
 have hpx:∀q ∈ X.px++ps.flatten,q ∈ X₁.px++ps.flatten:=fun q hq=>by
  simp only [X₁,Fx.px,List.nil_append,List.append_assoc,List.mem_append,List.cons_append,List.mem_cons]at hq ⊢
  rcases hq with h | h | h
  .exact .inl h
  .exact .inr (.inr (.inl h))
  .exact .inr (.inr (.inr h))
 have dsub:∀ps':List (Addr×Obj),By (X₁.px++ps')->By (X.px++ps'):=fun ps' h=>by
  unfold By at h ⊢
  refine h.sublist (List.Sublist.map _ ?_)
  refine List.Sublist.append ?_ (List.Sublist.refl _)
  show(X.own++X.ex).Sublist ([]++(X.own++(f,o)::X.ex))
  rw[List.nil_append]
  exact(List.sublist_cons_self _ _).append_left _
 refine wpAny_execs_cons (wpAny_Try_except (wpAny_execs_cons (wpAny_Return_some ?_)))
 refine T8 fun QA EA hQA hEA=> ?_
 refine BC (wpAny_Name (wpAny_loadName_local hkind ((hkd _).trans sask) (by rw[hloc₁];exact Dn) (v:= .ref f) rfl ?_) (by decide))
 obtain⟨fd,hfd⟩:=hfo
 have hfn₁:FnAt f h₁:=by
  obtain⟨a,b,c,e⟩:=o
  dsimp only at hfd
  subst hfd
  exact⟨a,b,fd,e,hk₁ _ _ hgf⟩
 refine Au (P:=FnAt f) (es:=[]) rfl (fun h X=>keeps_F h X) ?_
 refine wpAny_items_nil ⟨hfn₁,wpAny_call ?_⟩
 refine hrun (A.deeper env₁) X₁ env₁ h₁ _ _ cx₁ rm₁ rfl hk₁ x₁ ?_
 cases r with
 | bad=>exact hp
 | ok v H1=>
  intro ρ2 v' h2 tk2 l2 F2 r2
  obtain⟨Fr2,ps2,p2,N2,D2,lo2⟩:=F2
  refine hQA _ _ (lv _ _ (leaveK_ (L':=X₁.L) (m':=X₁.m) Fr2 N2 fun FX NX=> ?_))
  refine hp ρ2 v' h2 tk2 l2 ⟨FX,ps2,p2,DE NX fun q hq=> ?_,dsub _ D2,lo2⟩ r2
  simp only [X₁,Fx.px,List.nil_append,List.append_assoc,List.mem_append,List.cons_append,List.mem_cons]at hq ⊢
  rcases hq with h | h | h
  .exact .inl h
  .exact .inr (.inr (.inl h))
  .exact .inr (.inr (.inr h))
 | exc msg H1=>
  intro ρ2 e h2 tk2 l2 E2
  obtain⟨ps2,h₂,q2,D2,lo2,st2,Fr2,u2⟩:=E2
  refine hEA _ _ ?_
  refine IA (s:={ s with heap:=h2,toks:=tk2}) (L':=X₁.L) (PySem.Around.frames_deeper hA) hfr₁ st2 rfl fun h3 k1 k2=> ?_
  refine Gh (env:=env₁) (s:={ s with heap:=h3,toks:=tk2}) (L:=X₁.L) k1 (.inl rfl) fun h4 k3 J J k4=> ?_
  refine T8 fun QB EB hQB hEB=> ?_
  have u4:=(u2.trans k2).trans k4
  have hXL:g.Ns X.L X.m:=FG.ns
  have hX2:h₂.Ns X.L X.m:=hXL.keeps Fr2.keep
  have fr1:X₁.L ∈ X₁.l.filterMap (·.frame):=List.mem_filterMap.mpr ⟨env₁,.head _,hfr₁⟩
  have fr0:X.L ∈ X₁.l.filterMap (·.frame):=by
   obtain⟨e',he',hf'⟩:=List.mem_filterMap.mp cx.framesIn
   exact List.mem_filterMap.mpr ⟨e',.tail _ he',hf'⟩
  obtain⟨BB,d,es,nn,t,b1,b2,bL1,bL,b7,b8,hd⟩:=Vs (L:=X.L) k3 fr1 fr0 hX2 Fr2.ns u4
  have JK:X.L≠s.heap.objs.size:=Nat.ne_of_lt F.ns.lt
  have KB:U.K.In BB:=by
   have:=cx.gf.K
   rw[<-hb]at this
   exact this.keeps b1
  have hns4:h4.Ns mainGlobals U.mg:=by
   have:=cx.gf.T.g
   rw[<-hb]at this
   exact(this.keeps b1).keeps hd.st
  obtain⟨nm,qq,N',bs,hdct,sn,sub,ab,col,dd,c0,c1,c2,c3,c5,hobj⟩:=ue.obj
  refine wpAny_handleBy_cons (codeAny_handlers_test ?_) (by intro q;cases q)
  refine Name_function_global hkind ((hkd _).trans sref) ?_ (by decide)
  refine loadGlobal_global (mg:=U.mg) (by rw[hglo];exact hns4) (mg_of cx.gf.K cx.gf.T.g ue.name) ?_
  obtain⟨oe,vs,g1,g2,g3,g4,g5⟩:=hd.eo
  refine wpAny_excMatches_sub_self (hd.st _ _ (KB _ _ hobj)) g1 g2 rfl ?_
  refine codeAny_handlers_suite_as (hd.flight (s:={ s with heap:=h4,toks:=tk2}) fun h5 hd5=> ?_)
  refine T8 fun QC EC hQC hEC=> ?_
  have hpk:(env₁.scope.kind== .class||(env₁.scope.kind== .module&&env₁.locals != env₁.globals))=false:=by rw[hkind];rfl
  refine wpAny_storeName_local ((hkd _).trans serr) (by rw[hloc₁];exact hd5.ns1) (fun h6 hn6 hs6=> ?_) hpk
  rw[hloc₁]at hn6 hs6
  have hd6:=hd5.over JK bL1 hn6 hs6
  obtain⟨oe6,vs6,i1,i2,i3,i4,_⟩:=hd6.eo
  have K6:U.K.In h6:=KB.keeps hd6.st
  have hdi:hasDictIn U.K Ce=true:=by unfold hasDictIn;rw[ue.cls];exact ue.hd
  refine hQC _ _ ?_
  refine T8 fun QD ED hQD hED=> ?_
  refine wpAny_execs_cons (wpAny_Return_some (Attribute_any_ (wpAny_Name (wpAny_loadName_local hkind ((hkd _).trans serr) (by rw[hloc₁];exact hn6) (v:= .ref e) (if_pos rfl) ?_) (by decide)) ?_))
  .refine U9 (s:={ s with heap:=h6,toks:=tk2+1}) (n:=nn) K6 ⟨i1,i2,by unfold notCls;rw[i4],by rw[i3];exact hd6.st _ _ b7⟩ ue.cls ue.mro ue.hga ue.hgt hdi ue.hmsg rfl b8 rfl ?_
   refine hQD _ _ ?_
   refine wpAny_nameGoes (s:={ s with heap:=h6,toks:=tk2+1+1}) ((hkd _).trans serr) (by rw[hloc₁];exact hn6) hpk fun h7 m7 hn7 hs7=> ?_
   rw[hloc₁]at hn7 hs7
   have hd7:=hd6.over JK bL1 hn7 hs7
   refine hQB _ _ ?_
   refine hp ρ2 (.str (wd msg) t) h7 _ l2 ⟨⟨hd7.nsL,fun b o q=> ?_,F.above⟩,ps2,q2,fun q hq=> ?_,dsub _ D2,lo2⟩ ⟨t,rfl⟩
   .rw [<-hb]at q;exact hd7.st _ _ (b1 _ _ q)
   .have hq':q ∈ X₁.px++ps2.flatten:=by
     simp only [X₁,Fx.px,List.nil_append,List.append_assoc,List.mem_append,List.cons_append,List.mem_cons]at hq ⊢
     rcases hq with h | h | h
     .exact .inl h
     .exact .inr (.inr (.inl h))
     .exact .inr (.inr (.inr h))
    have y:=b2 q hq'
    refine⟨hd7.st _ _ y.1,fun z=> ?_,by rw[<-hb];exact y.2⟩
    rw[z,bL]at y;cases y.1
  .show (do let o <-attributeBase (.Name ("error":Str) p5) ("message":Str) env₁ (eval (.Name ("error":Str) p5) env₁);_:Sem Value)=_
   rw[C4 rfl]
end
section
variable{Ce D fI fK c:Addr}{cd:ClassData}
theorem JF{h h':Heap}{cv:Value}{q:Str}(x:h.CodeRec cv q)(k:∀b o,h.get? b=some o->h'.get? b=some o):h'.CodeRec cv q:=by
 obtain⟨a,o,vs,t,e,ho,r⟩:=x
 exact⟨a,o,vs,t,e,k _ _ ho,r⟩
theorem Pz(uk:UK U fK)(ue:UE U Ce D fI cd)(cx:Cx U A X env n)(ek:AJ X env env ns)(hr:DK A n 3)(hb:X.base=X.G)(hcode:env.code=.ref c)(hCd:CodeHd X.G c U.tabA)(hq:env.qual++"<lambda>"=CU):
  IU U (.ref Ce) C A X env Γ ns n:=by
 intro m params body sc lp np pos hg hlam hse ρ H s vs Q E x eo hp
 change Ae _ _ _ _ _ (ite _ _ _) _ _ _ at hp
 by_cases h0:H[0]? =some .tab
 .rw [if_pos h0]at hp
  have k:=R8 hlam
  refine BC (Dy ek cx.gf x hg uk.name ?_)
  refine Au (P:=U.K.In) rfl (fun h X=>keeps_K uk.keep h X) ?_
  refine spliced_more (S2 cx ek hcode hCd hq x h0 k fun f pm c' ctv h' tk x' hcd'=> ?_) (AH rfl)
  have KI:=cx.gf.K.keeps x'.fr.keep
  refine wpAny_items_nil ⟨KI,wpAny_call ?_⟩
  refine Nc (r:=Ac C m vs H) uk ue cx hr hb x' ⟨_,rfl⟩ (fun A₁ X₁ env₁ h₁ tk R' cx₁ rm₁ hpx hk x₁ hp₁=> ?_) ?_
  .refine SK cx₁ rm₁ x₁ k ek eo (fun p hp=> ?_) (by rw[hpx];exact Da _ (.head _)) (JF hcd' hk) hse hp₁
   rw[hpx]
   rcases List.mem_append.mp hp with hp | hp
   .exact B0 _ hp
   .exact Da _ (.tail _ hp)
  .have e2:J5 (Ac C m vs) H=Tm (Ac C m vs H):=by unfold J5 Tm;rfl
   rw[e2]at hp
   exact hp
 .rw [if_neg h0]at hp;exact hp.elim
end
inductive V1(U:Un)(fL c:Addr):Prop
 | mk (oc od osl name qual params body scope dV kV doc pm an ct:_) (h0:U.K.lookup fL=some ⟨oc,od,.func (fnX name qual params body scope [] dV kV doc pm an (.ref c) ct),osl⟩) (h1:codeIn U.K (.ref c) qual=true) (h2:Qr scope ((Γf .AY).take 1)) (h3:Go true scope.names (Γf .AY) (prog .AY).body body=true) (h4:(qual++".<locals>.")++"<lambda>"=CU) (h5:∀s a,U.K.In s.heap->BindsTo s (fnX name qual params body scope [] dV kV doc pm an (.ref c) ct) ⟨[a],[]⟩ (((Γf .AY).take 1).zip [a])):V1 U fL c
structure LK(U:Un)(fL c:Addr):Prop where
 fn:V1 U fL c
 hdc:codeHdIn U.K c U.tabA=true
theorem Je:(prog .AY).params=1:=by rfl
theorem Ti:(prog .AY).dflt=[]:=by rfl
section
variable{Aa:List Int}{bg:Fh}{G:Heap}{fL c fK:Addr}{d:Nat}{R:Result->Shared->Prop}
theorem U6(tx:Txt U xc fa Aa bg)(uk:UK U fK)(lk:LK U fL c)(gf:GF U G)(hlim:s.heap.NoLimit)(KI:U.K.In s.heap)(hG:∀b o,G.get? b=some o->s.heap.get? b=some o)(hsz:G.objs.size<=s.heap.objs.size)
  (hP:s.heap.get? U.tabA=some (tabObj #[])) (hGP:G.get? U.tabA=none) (h3:3 < U.tabA) (hd1:400+8 * d < recursionLimit) (hd2:1000+200 * d < cLine)
  (hm:∃H',DY prog Aa bg initOf (d+1) .AY [.ext] [.tab]=.ok (.bool true) H'/\H'[0]? =some .tab)
  (hR:∀h' CG,(∀b o,G.get? b=some o->h'.get? b=some o)->GrownAt U.tabA h'->R (.ok (.ret (.bool true))) { s with heap:=h',toks:=CG}):
  codeAny (model U.prog U.w) callerA (.call (.ref fL) ⟨[.ref U.sa],[]⟩) R s:=by
 obtain⟨oc,od,osl,name,qual,params,body,scope,dV,kV,doc,pm,an,ct,hl,hcd,sc,Ls,hq,hbind⟩:=lk.fn
 have sh:=Ng .AY
 unfold Lm at sh
 simp only [DN,decide_eq_true_eq,List.all_eq_true]at sh
 obtain⟨⟨⟨⟨nd,Ba⟩,hpv⟩,hdf⟩,hdl⟩:=sh
 have Ba:=eq_of_beq Ba
 have hb':=hbind s (.ref U.sa) KI
 have hl1:((Γf .AY).take 1).length=1:=by rw[List.length_take];rw[Je]at hpv;exact Nat.min_eq_left (Ba▸hpv)
 have bn:(((Γf .AY).take 1).zip [Value.ref U.sa]).map (·.1)=(Γf .AY).take 1:=GZ (by rw[hl1];rfl)
 have names0:∀k,(cellsFrom k scope.names []).map (·.1)=(cellsFrom 0 scope.names []).map (·.1):=fun k=>cellsFrom_names scope.names k 0 [] [] rfl
 have cell':∀k y,scope.names.lookup y=some .cell->((cellsFrom k scope.names []).lookup y).isSome=true:=fun k y hy=>CO (names0 k).symm (sc.cell y hy)
 refine codeAny_call_function (by show 1+claimMargin < recursionLimit;decide) (KI _ _ hl) rfl sc.co sc.gen rfl (codeRec_of KI hcd) (hb' _ _ _ _ ?_)
 refine wpAny_newFunctionEnv_cells sc.kind (fun y hy=> ?_) fun Ai he s' x=> ?_
 .rcases sc.par y.1 (by rw[<-bn];exact List.mem_map_of_mem hy)with e | e
  .exact .inl e
  .exact .inr ⟨e,cell' _ _ e⟩
 subst he
 refine⟨hlim.keeps x.toInCall.keep,codeAny_func ?_⟩
 obtain⟨h₁,tk,rfl,_⟩:=x.done
 have hk₁:=x.toInCall.keep
 obtain⟨cells,NC,Y⟩:=Cl.news (h₀:=s.heap) (Nat.le_refl _) fun n c hm=>⟨x.cell n c (lookup_of_mem_nodup (names0 _▸sc.nd) hm),x.above n c hm⟩
 have Dn:h₁.Ns s.heap.objs.size (bindL (envOfC qual scope s.heap.objs.size fL (.ref c)).kindOf (((Γf .AY).take 1).zip [Value.ref U.sa]) fun J=>none):=x.toInCall.ns
 have Y:CellsAre (bindC (envOfC qual scope s.heap.objs.size fL (.ref c)).kindOf (((Γf .AY).take 1).zip [Value.ref U.sa]) fun J=>none) (cellsFrom (s.heap.objs.size+1) scope.names []) cells:=Y
 show wpAny (model U.prog U.w) (callerA.deeper (envOfC qual scope s.heap.objs.size fL (.ref c))) (execs body (envOfC qual scope s.heap.objs.size fL (.ref c))) _ _ _
 clear x
 generalize B8:envOfC qual scope s.heap.objs.size fL (.ref c)=Ai at *
 have addrs:=FO Y
 have ca:=Ei scope.names (s.heap.objs.size+1) [] List.nodup_nil (by intro p hp;cases hp)
 have cnd:(cells.map (·.1)).Nodup:=by rw[addrs];exact ca.1
 have cabove:∀q ∈ cells,s.heap.objs.size < q.1:=fun q hq=>by
  have:q.1 ∈ cells.map (·.1):=List.mem_map_of_mem hq
  rw[addrs]at this
  obtain⟨r,hr,e⟩:=List.mem_map.mp this
  rcases ca.2 r hr with hr | hr
  .cases hr
  .rw [<-e];exact hr
 let X':Fx:={ G:=G,L:=s.heap.objs.size,m:=bindL Ai.kindOf (((Γf .AY).take 1).zip [Value.ref U.sa]) fun J=>none,own:=cells,ex:=[],base:=G,l:=[Ai]}
 have hcells:Ai.cells=cellsFrom (s.heap.objs.size+1) scope.names []:=by rw[<-B8];rfl
 have hnames:Ai.scope.names=scope.names:=by rw[<-B8];rfl
 have hdp:(callerA.deeper Ai).depth=302:=rfl
 have hun:(callerA.deeper Ai).units=7:=rfl
 have rl:recursionLimit=1000:=rfl
 have cx':Cx U (callerA.deeper Ai) X' Ai d:=by
  refine⟨⟨callerA,[],below_caller G,rfl⟩,rfl,by rw[<-B8];rfl,by rw[<-B8];exact sc.kind,rfl,?_,?_,gf⟩
  .rw [hdp];exact fV ‹_› (by rfl)
  .rw [hun];exact fV ‹_› (by rfl)
 have rm:DK (callerA.deeper Ai) d 7:=by
  constructor
  .rw [hdp];exact dJ ‹_› (by rfl)
  .rw [hun];exact dJ ‹_› (by rfl)
 have ek':AJ X' Ai Ai scope.names:=by
  refine⟨hnames,by rw[<-B8];exact sc.kind,by rw[<-B8];rfl,by rw[<-B8];rfl,by rw[<-B8];rfl,fun y hy=> ?_⟩
  rw[hcells]
  unfold PySem.Env.kindOf at hy
  rw[hnames]at hy
  rcases hy with hy | hy
  .exact cell' _ y hy
  .exact absurd rfl (sc.free y _ hy)
 have sx':SX U (callerA.deeper Ai) X' Ai Ai d scope.names:=by
  refine⟨cx',ek',by rw[<-B8];rfl,fun y c hy=> ?_,fun y z c hy hz=> ?_,fun J J=>rfl⟩
  .rw [hcells]at hy
   obtain⟨o,h1,h2⟩:=DR Y hy
   exact⟨o,_,h1,h2⟩
  .rw [hcells]at hy hz
   exact D4 ca.1 hy hz
 have hP1:U.tabA < s.heap.objs.size:=Heap.lt_size hP
 have x':AL U X' [(U.tabA,0)] [.tab] h₁:=by
  refine⟨⟨Dn,fun b o e=>hk₁ b o (hG b o e),hsz⟩,[[(U.tabA,tabObj #[])]],⟨⟨#[],[],rfl,rfl,trivial,fun pos cv e=>by cases e⟩,trivial⟩,fun q hq=> ?_,?_,?_⟩
  .simp only [Fx.px,X',List.append_nil,List.flatten_cons,List.flatten_nil,List.mem_append,List.mem_singleton]at hq
   rcases hq with hq | rfl
   .have y:=NC q hq
    refine⟨y.1,y.2.1,?_⟩
    cases e:G.get? q.1 with
    | none=>rfl
    | some o=>have:=hG _ _ e;rw[y.2.2]at this;cases this
   .exact ⟨hk₁ _ _ hP,Nat.ne_of_lt hP1,hGP⟩
  .show By ((cells++[])++[(U.tabA,tabObj #[])])
   rw[List.append_nil]
   refine BQ List.perm_append_comm (BQ List.perm_append_comm (Gw (n:=cells) (l:=[(U.tabA,tabObj #[])]) ?_ cnd ?_))
   .exact List.nodup_cons.mpr ⟨by simp,List.nodup_nil⟩
   .intro p hp q hq
    rcases List.mem_singleton.mp hq with rfl
    exact Nat.lt_trans hP1 (cabove p hp)
  .intro q hq
   simp only [List.flatten_cons,List.flatten_nil,List.append_nil,List.mem_singleton]at hq
   subst hq;exact h3
 have ld:∀x v,(((Γf .AY).take 1).zip [Value.ref U.sa]).lookup x=some v->GL X' Ai x v:=fun y v hy=>by
  have hm:y ∈ (((Γf .AY).take 1).zip [Value.ref U.sa]).map (·.1):=List.mem_map.mpr ⟨(y,v),DV.lookup_memV hy,rfl⟩
  have hnd:((((Γf .AY).take 1).zip [Value.ref U.sa]).map (·.1)).Nodup:=by rw[bn];exact sc.pnd
  have hk:Ai.kindOf y=scope.names.lookup y:=by unfold PySem.Env.kindOf;rw[hnames]
  rw[bn]at hm
  rcases sc.par y hm with e | e
  .refine .inl ⟨hk.trans e,by rw[<-B8];rfl,?_⟩
   show bindL Ai.kindOf _ (fun J=>none) y=some v
   rw[DV hnd (hk.trans e),hy]
  .have hs:=cell' (s.heap.objs.size+1) y e
   obtain⟨c,hc⟩:=Option.isSome_iff_exists.mp hs
   obtain⟨o,h1,h2⟩:=DR Y hc
   refine .inr (.inl ⟨.inl (hk.trans e),c,o,by rw[hcells];exact hc,B0 _ h1,?_⟩)
   rw[h2,Hj hnd (by rw[hk,e];decide),hy]
 obtain⟨Ce,De,fI,cde,rfl,ue⟩:=tx.ue
 have al:Al U (.ref Ce) fa d { Aa:=Aa,bg:=bg,initOf:=initOf,call:=DY prog Aa bg initOf d}:=
  ⟨tx.uf,tx.ug,tx.ub,tx.uc,tx.um,tx.bg,tx.Aa,rfl,tx.gmx,fun pin=>VD d _ (tx.pinned pin),⟨Ce,De,fI,cde,rfl,ue⟩⟩
 have hq':Ai.qual++"<lambda>"=CU:=by rw[<-B8];exact hq
 obtain⟨H',hm,h0⟩:=hm
 rw[DY]at hm
 rw[if_pos (by decide)]at hm
 have rm3:DK (callerA.deeper Ai) d 3:=⟨by have:=rm.1;exact dA ‹_› (by rfl),by have:=rm.2;exact dA ‹_› (by rfl)⟩
 refine Cu (prog .AY).body true scope.names (Γf .AY) body Ls ⟨U,.ref Ce,fa,d,{ Aa:=Aa,bg:=bg,initOf:=initOf,call:=DY prog Aa bg initOf d},callerA.deeper Ai,Ai⟩ ⟨nd,al,rm3,fun J X sx=> ?_⟩ X' [(U.tabA,0)] [.tab] _ _ _ _ sx' x' (O4 (vs:=[.ext]) nd (p:=1) (q:=(prog .AY).vars) (by rw[Ba];exact hpv) (xs:=[Value.ref U.sa]) ⟨rfl,trivial⟩ rfl Ba.symm ld) ?_
 .refine Pz uk ue sx.cx sx.ek rm3 (sx.og Ai ?_) (by rw[<-B8];rfl) (codeHd_of_K sx.cx.gf.K lk.hdc) hq'
  have hA:=sx.cx.hA
  have:(callerA.deeper Ai).frames=some [Ai]:=rfl
  rw[this]at hA
  exact(Option.some.inj hA).symm
 .unfold bnd at hm
  have e0:([V.ext]++List.drop ([V.ext].length+(prog .AY).dflt.length - (prog .AY).params) (prog .AY).dflt).map some++List.replicate ((prog .AY).vars - (prog .AY).params) Option.none=[V.ext].map some++List.replicate ((prog .AY).vars - 1) Option.none:=by
   rw[Ti,Je];rfl
  rw[e0]at hm
  cases e:Am { Aa:=Aa,bg:=bg,initOf:=initOf,call:=DY prog Aa bg initOf d} (prog .AY).body ([V.ext].map some++List.replicate ((prog .AY).vars - 1) Option.none) [.tab]with
  | bad=>rw[e]at hm;cases hm
  | exc m H1=>rw[e]at hm;cases hm
  | ok r H1=>
   rw[e]at hm
   obtain⟨vs2,fl⟩:=r
   intro X'' ρ' h' CG sm sxx l F eo2
   have keep:∀b o,G.get? b=some o->h'.get? b=some o:=fun b o q=>F.fr.keep b o (by rw[sm.G];exact q)
   have gr:H1[0]? =some .tab->GrownAt U.tabA h':=fun h=>by
    obtain⟨ps,codes,g1,_⟩:=FS.tab F h rfl
    exact⟨ps,g1⟩
   cases fl with
   | none=>cases hm
   | some v=>
    cases hm
    intro v' r
    cases r
    exact hR h' CG keep (gr h0)
end
theorem E5:∀{ns:List Str} {xs:List Value} {n:Str},n ∈ ns->ns.length=xs.length->((ns.zip xs).lookup n).isSome=true
 | [],_,_,h,_=>by cases h
 | _::_,[],_,_,e=>by cases e
 | y::ns,x::xs,n,h,e=>by
  rw[List.zip_cons_cons,List.lookup_cons]
  cases q:n==y with
  | true=>rfl
  | false=>
   rcases List.mem_cons.mp h with rfl | h
   .simp at q
   .exact E5 h (by simpa using e)
theorem JJ:∀{ns:List Str} {xs:List Value},ns.Nodup->ns.length=xs.length->(ns.filterMap fun n=>((ns.zip xs).lookup n).map (n,·))=ns.zip xs:=by
 intro ns xs nd e
 have key:∀(l:List Str) (l':List Value) (P:List (Str×Value)),l.Nodup->l.length=l'.length->(∀n ∈ l,P.lookup n=none)->
   (l.filterMap fun n=>((P++l.zip l').lookup n).map (n,·))=l.zip l':=by
  intro l
  induction l with
  | nil=>intro l' P _ _ _;rfl
  | cons y r ih=>
   intro l' P nd e hP
   cases l' with
   | nil=>cases e
   | cons x xs=>
    rw[List.nodup_cons]at nd
    have h1:(P++(y::r).zip (x::xs)).lookup y=some x:=by
     rw[List.lookup_append,hP y (.head _),List.zip_cons_cons,List.lookup_cons,beq_self_eq_true];rfl
    rw[List.filterMap_cons,h1]
    have h2:P++(y::r).zip (x::xs)=(P++[(y,x)])++r.zip xs:=by simp
    have:=ih xs (P++[(y,x)]) nd.2 (by simpa using e) fun n hn=>by
     rw[List.lookup_append,hP n (.tail _ hn)]
     have:(n==y)=false:=beq_eq_false_iff_ne.mpr fun q=>nd.1 (q▸hn)
     simp[List.lookup_cons,this]
    rw[h2]
    simp only [Option.map_some,List.zip_cons_cons]
    rw[this]
 have:=key ns xs [] nd e (fun J J=>rfl)
 simpa using this
noncomputable def kB(fd:FuncData):{ k:List Value->Option (Array Value)->Sem (List (Str×Value)) // ∀pos,bindArgs fd ⟨pos,[]⟩=seqItems? fd.defaults >>= k pos}:=⟨_,fun J=>rfl⟩
theorem Wg{α:Type}{c:Prop}[Decidable c]{a b r:α}(h:¬c)(e:b=r):ite c a b=r:=(if_neg h).trans e
theorem JN{p:Arguments}(hp:p.posonlyargs=[])(hv:p.vararg=none)(hk:p.kwonlyargs=[])(hw:p.kwarg=none):p=⟨[],p.args,none,[],p.kw_defaults,none,p.defaults⟩:=by
 cases p
 cases hp
 cases hv
 cases hk
 cases hw
 rfl
theorem Vz{x1 x2:Str}{as:List Arg}{kd:List (Option Expr)}{df:List Expr}{x3:FuncBody}{x4:Scope}{x5:Addr}{x6:List (Str×Addr)}{x8 x9 x10:Value}{x11:Option Addr}{x12 x13:Value}{x14:Addr}{pos:List Value}(nd:(as.map (·.arg)).Nodup)(hl:pos.length=as.length):
  bindArgs ⟨x1,x2,⟨[],as,none,[],kd,none,df⟩,x3,x4,x5,x6,.none,x8,x9,x10,x11,x12,x13,x14⟩ ⟨pos,[]⟩=pure ((as.map (·.arg)).zip pos):=by
 have bS:(as.map (·.arg)).length=pos.length:=by rw[List.length_map,hl]
 have hm:∀k,((as.map (·.arg)).take k).filter (fun n=>(((as.map (·.arg)).zip pos).lookup n).isNone)=[]:=fun k=>by
  rw[List.filter_eq_nil_iff]
  intro n hn
  have:=E5 (List.mem_of_mem_take hn) bS
  rw[Option.isNone_iff_eq_none]
  intro q;rw[q]at this;cases this
 refine((kB _).2 pos).trans (Wg ?_ (Wg ?_ ?_))
 .show ¬(decide (pos.length > (as.map (·.arg)).length)&&true)=true
  rw[bS,Bool.and_true,decide_eq_true_eq]
  exact Nat.lt_irrefl _
 .show ¬(!(((as.map (·.arg)).take _).filter fun n=>(((as.map (·.arg)).zip pos).lookup n).isNone).isEmpty)=true
  rw[hm]
  exact Bool.false_ne_true
 .simp only [List.map_nil,List.nil_append,Option.getD_none,List.length_nil,List.drop_nil,List.zip_nil_right,List.forIn_nil,pure_bind,List.append_nil]
  exact congrArg pure (JJ nd bS)
theorem N4{fd:FuncData}{pos:List Value}(hp:fd.params.posonlyargs=[])(hv:fd.params.vararg=none)(hk:fd.params.kwonlyargs=[])(hw:fd.params.kwarg=none)(hd:fd.defaults=.none)(nd:(fd.params.args.map (·.arg)).Nodup)(hl:pos.length=fd.params.args.length):
  bindArgs fd ⟨pos,[]⟩=pure ((fd.params.args.map (·.arg)).zip pos):=by
 have h:=Vz (pos:=pos) (as:=fd.params.args) (x1:=fd.name) (x2:=fd.qualname) (kd:=fd.params.kw_defaults) (df:=fd.params.defaults) (x3:=fd.body) (x4:=fd.scope) (x5:=fd.globals) (x6:=fd.closure) (x8:=fd.kwdefaults) (x9:=fd.doc) (x10:=fd.pyModule) (x11:=fd.annotations) (x12:=fd.code) (x13:=fd.closureTuple) (x14:=fd.builtins) nd hl
 rw[<-hd]at h
 exact(congrArg (fun p=>bindArgs { fd with params:=p} ⟨pos,[]⟩) (JN hp hv hk hw)).trans h
noncomputable def YQ(scope:Scope)(binds:List Str):Bool:=
 (!scope.isCoroutine&&(!scope.isGenerator&&scope.kind== .function))&&((scope.names.all fun p=>p.2 != .free)&&(scope.names.all fun p=>p.2 != .cell||((cellsFrom 0 scope.names []).lookup p.1).isSome))&&
 ((binds.all fun y=>scope.names.lookup y==some .local||scope.names.lookup y==some .cell)&&(decide ((cellsFrom 0 scope.names []).map (·.1)).Nodup&&decide binds.Nodup))
theorem Hw{scope:Scope}{binds:List Str}(h:YQ scope binds=true):Qr scope binds:=
 have h1:=Ag (Ag h)
 have h2:=Ak (Ag h)
 have h3:=Ak h
 ⟨nt (Ag h1),nt (Ag (Ak h1)),eq_of_beq (Ak (Ak h1)),fun J J e=>bne_iff_ne.mp (List.all_eq_true.mp (Ag h2) _ (BS e)),
  fun J e=>((Bool.or_eq_true _ _).mp (List.all_eq_true.mp (Ak h2) _ (BS e))).elim (fun q=>absurd rfl (bne_iff_ne.mp q)) id,
  fun y hy=>((Bool.or_eq_true _ _).mp (List.all_eq_true.mp (Ag h3) y hy)).imp eq_of_beq eq_of_beq,of_decide_eq_true (Ag (Ak h3)),of_decide_eq_true (Ak (Ak h3))⟩
noncomputable def Te(d:Data)(k:FuncData->Bool):Bool:= @Data.casesOn (fun J=>Bool) d false (fun J=>false) (fun J J=>false) (fun J J=>false) (fun J J J=>false) (fun J J=>false) (fun J=>false) k (fun J=>false) (fun J=>false) false
theorem Rw{P:Data->Prop}{d:Data}{k:FuncData->Bool}(h:Te d k=true)(f:∀x,k x=true->P (.func x)):P d:= @Data.casesOn (fun d=>Te d k=true->P d) d nf (fun J=>nf) (fun J J=>nf) (fun J J=>nf) (fun J J J=>nf) (fun J J=>nf) (fun J=>nf) f (fun J=>nf) (fun J=>nf) nf h
noncomputable def Yp(d:Data)(k:ClassData->Bool):Bool:= @Data.casesOn (fun J=>Bool) d false (fun J=>false) (fun J J=>false) (fun J J=>false) (fun J J J=>false) (fun J J=>false) (fun J=>false) (fun J=>false) k (fun J=>false) false
theorem Vc{P:Data->Prop}{d:Data}{k:ClassData->Bool}(h:Yp d k=true)(f:∀x,k x=true->P (.cls x)):P d:= @Data.casesOn (fun d=>Yp d k=true->P d) d nf (fun J=>nf) (fun J J=>nf) (fun J J=>nf) (fun J J J=>nf) (fun J J=>nf) (fun J=>nf) (fun J=>nf) f (fun J=>nf) nf h
noncomputable def Xc(d:Data)(k:Array Value->Nat->Bool):Bool:= @Data.casesOn (fun J=>Bool) d false (fun J=>false) k (fun J J=>false) (fun J J J=>false) (fun J J=>false) (fun J=>false) (fun J=>false) (fun J=>false) (fun J=>false) false
theorem VQ{P:Data->Prop}{d:Data}{k:Array Value->Nat->Bool}(h:Xc d k=true)(f:∀x n,k x n=true->P (.seq x n)):P d:= @Data.casesOn (fun d=>Xc d k=true->P d) d nf (fun J=>nf) f (fun J J=>nf) (fun J J J=>nf) (fun J J=>nf) (fun J=>nf) (fun J=>nf) (fun J=>nf) (fun J=>nf) nf h
noncomputable def YM(K:Frag)(x:FuncData):Bool:=
 (x.globals==mainGlobals&&x.builtins==builtinsNs)&&(x.closure.isEmpty&&codeIn K x.code x.qualname)&&
 ((x.params.posonlyargs.isEmpty&&x.params.vararg.isNone)&&(x.params.kwonlyargs.isEmpty&&x.params.kwarg.isNone))
noncomputable def Ip(x:FuncData)(l:List Str):Bool:=x.defaults==Value.none&&x.params.args.map (·.arg)==l
noncomputable def Tn(b:FuncBody)(k:List Stmt->Bool):Bool:= @FuncBody.casesOn (fun J=>Bool) b k fun J=>false
noncomputable abbrev fx(x:FuncData)(b:List Stmt):FuncData:=fnX x.name x.qualname x.params b x.scope [] x.defaults x.kwdefaults x.doc x.pyModule x.annotations x.code x.closureTuple
structure Xm(K:Frag)(x:FuncData):Prop where
 cd:codeIn K x.code x.qualname=true
 po:x.params.posonlyargs=[]
 va:x.params.vararg=none
 ko:x.params.kwonlyargs=[]
 kw:x.params.kwarg=none
theorem YX{K:Frag}{x:FuncData}{b:List Stmt}(h:YM K x=true)(hb:x.body=.stmts b):x=fx x b:=by
 have h1:=eq_of_beq (Ag (Ag (Ag h)))
 have h2:=eq_of_beq (Ak (Ag (Ag h)))
 have h3:=List.isEmpty_iff.mp (Ag (Ak (Ag h)))
 clear h
 cases x
 cases hb
 cases h1
 cases h2
 cases h3
 rfl
theorem aM{K:Frag}{x:FuncData}(h:YM K x=true):Xm K x:=
 ⟨Ak (Ak (Ag h)),List.isEmpty_iff.mp (Ag (Ag (Ak h))),Option.isNone_iff_eq_none.mp (Ak (Ag (Ak h))),List.isEmpty_iff.mp (Ag (Ak (Ak h))),Option.isNone_iff_eq_none.mp (Ak (Ak (Ak h)))⟩
noncomputable def PG(K:Frag)(a:Addr)(k:FuncData->List Stmt->Bool):Bool:=xo (K.lookup a) fun o=>Te o.data fun x=>Tn x.body fun b=>YM K x&&k x b
theorem GY{K:Frag}{a:Addr}{k:FuncData->List Stmt->Bool}{P:Prop}(h:PG K a k=true)(f:∀oc od osl x b,K.lookup a=some ⟨oc,od,.func (fx x b),osl⟩->Xm K x->k x b=true->P):P:=
 FQ (P:=fun o=>K.lookup a=o->P) h (fun o h=>by
  obtain⟨oc,od,d,osl⟩:=o
  refine Rw (P:=fun d=>K.lookup a=some ⟨oc,od,d,osl⟩->P) h fun x h hl=> ?_
  cases hb:x.body with
  | stmts b=>
   have h:(YM K x&&k x b)=true:=by
    have h:Tn x.body (fun b=>YM K x&&k x b)=true:=h
    rw[hb]at h;exact h
   exact f oc od osl x b (by rw[<-YX (Ag h) hb];exact hl) (aM (Ag h)) (Ak h)
  | expr e=>
   have h:Tn x.body (fun b=>YM K x&&k x b)=true:=h
   rw[hb]at h;exact nf h) rfl
theorem Ek{K:Frag}{x:FuncData}{b:List Stmt}{l:List Str}(fd:Xm K x)(h:Ip x l=true)(nd:l.Nodup){s:Shared}{args:List Value}(hl:args.length=l.length):BindsTo s (fx x b) ⟨args,[]⟩ (l.zip args):=by
 have h6:x.params.args.map (·.arg)=l:=eq_of_beq (Ak h)
 subst h6
 exact BindsTo.of_eq (N4 (fd:=fx x b) (pos:=args) fd.po fd.va fd.ko fd.kw (eq_of_beq (Ag h)) nd (hl.trans (List.length_map _)))
theorem J4(f:Fn):((Γf f).take (prog f).params).length=(prog f).params:=by
 have sh:=Ng f
 rw[List.length_take,eq_of_beq (Ak (Ag (Ag (Ag sh))))]
 exact Nat.min_eq_left (of_decide_eq_true (Ak (Ag (Ag sh))))
noncomputable def dZ(K:Frag)(k:Bool)(f:Fn)(a:Addr):Bool:=PG K a fun x b=>Ip x ((Γf f).take (prog f).params)&&(prog f).dflt.isEmpty&&YQ x.scope ((Γf f).take (prog f).params)&&Go k x.scope.names (Γf f) (prog f).body b
theorem Yw{K:Frag}{fa:Fn->Addr}{f:Fn}(h:dZ K false f (fa f)=true):Lf K fa f:=
 GY h fun oc od osl x b hl fd h=> .mk _ _ _ _ _ _ _ _ _ _ _ _ _ _ _ hl fd.cd (Hw (Ak (Ag h))) (Ak h) fun s args J hle hge=>by
  rw[List.isEmpty_iff.mp (Ak (Ag (Ag h))),List.length_nil,Nat.add_zero]at hge
  rw[Nat.sub_eq_zero_of_le hge,List.replicate_zero,List.append_nil]
  exact Ek fd (Ag (Ag (Ag h))) (Hw (Ak (Ag h))).pnd ((Nat.le_antisymm hle hge).trans (J4 f).symm)
theorem YC{x1 x2:Str}{a1 a2 a3 a4:Str}{b1 b2 b3 b4:Option Expr}{p1 p2 p3 p4:Pos}{kd:List (Option Expr)}{df:List Expr}{x3:FuncBody}{x4:Scope}{x5:Addr}{x6:List (Str×Addr)}{x7 x8 x9 x10:Value}{x11:Option Addr}{x12 x13:Value}{x14:Addr}{a b c v:Value}(hn:[a1,a2,a3,a4]=(Γf .An).take 4):
  (kB ⟨x1,x2,⟨[],[⟨a1,b1,p1⟩,⟨a2,b2,p2⟩,⟨a3,b3,p3⟩,⟨a4,b4,p4⟩],none,[],kd,none,df⟩,x3,x4,x5,x6,x7,x8,x9,x10,x11,x12,x13,x14⟩).1 [a,b,c] (some #[v])=pure (((Γf .An).take 4).zip [a,b,c,v])/\
  ∀d,(kB ⟨x1,x2,⟨[],[⟨a1,b1,p1⟩,⟨a2,b2,p2⟩,⟨a3,b3,p3⟩,⟨a4,b4,p4⟩],none,[],kd,none,df⟩,x3,x4,x5,x6,x7,x8,x9,x10,x11,x12,x13,x14⟩).1 [a,b,c,d] (some #[v])=pure (((Γf .An).take 4).zip [a,b,c,d]):=by
 cases hn
 exact⟨rfl,fun d=>rfl⟩
theorem Vy{α β:Type}{f:α->β}{l:List α}{w:β}{r:List β}(h:l.map f=w::r):∃p q,l=p::q/\q.map f=r:=by
 cases l with
 | nil=>cases h
 | cons p q=>exact⟨p,q,rfl,(List.cons.inj h).2⟩
theorem bX{α β:Type}{f:α->β}{l:List α}{w x y z:β}(h:l.map f=[w,x,y,z]):∃p q r s,l=[p,q,r,s]:=by
 obtain⟨p,l1,e1,h1⟩:=Vy h
 obtain⟨q,l2,e2,h2⟩:=Vy h1
 obtain⟨r,l3,e3,h3⟩:=Vy h2
 obtain⟨s,l4,e4,h4⟩:=Vy h3
 exact⟨p,q,r,s,by rw[e1,e2,e3,e4,List.map_eq_nil_iff.mp h4]⟩
theorem To{fd:FuncData}(hp:fd.params.posonlyargs=[])(hv:fd.params.vararg=none)(hk:fd.params.kwonlyargs=[])(hw:fd.params.kwarg=none)(hn:fd.params.args.map (·.arg)=(Γf .An).take 4)(a b c v:Value):
  (kB fd).1 [a,b,c] (some #[v])=pure (((Γf .An).take 4).zip [a,b,c,v])/\∀d,(kB fd).1 [a,b,c,d] (some #[v])=pure (((Γf .An).take 4).zip [a,b,c,d]):=by
 obtain⟨a1,a2,a3,a4,e4⟩:=bX hn
 have e:fd.params=⟨[],[a1,a2,a3,a4],none,[],fd.params.kw_defaults,none,fd.params.defaults⟩:=by rw[<-e4];exact JN hp hv hk hw
 rw[e4]at hn
 clear hp hv hk hw e4
 obtain⟨x1,x2,ps,x3,x4,x5,x6,x7,x8,x9,x10,x11,x12,x13,x14⟩:=fd
 have e:ps=_:=e
 rw[e]
 obtain⟨n1,b1,p1⟩:=a1
 obtain⟨n2,b2,p2⟩:=a2
 obtain⟨n3,b3,p3⟩:=a3
 obtain⟨n4,b4,p4⟩:=a4
 exact @YC x1 x2 n1 n2 n3 n4 b1 b2 b3 b4 p1 p2 p3 p4 ps.kw_defaults ps.defaults x3 x4 x5 x6 x7 x8 x9 x10 x11 x12 x13 x14 a b c v hn
noncomputable def bV(K:Frag)(a T:Addr):Bool:=PG K a fun x b=>YQ x.scope ((Γf .An).take 4)&&Go false x.scope.names (Γf .An) (prog .An).body b&&(x.defaults==Value.ref T&&x.params.args.map (·.arg)==(Γf .An).take 4)&&xo (K.lookup T) fun o=>Xc o.data fun its J=>its==#[Value.none]
theorem YI{K:Frag}{fa:Fn->Addr}{T:Addr}(h:bV K (fa .An) T=true):Lf K fa .An:=
 GY h fun oc od osl x bb hl fd h=> .mk _ _ _ _ _ _ _ _ _ _ _ _ _ _ _ hl fd.cd (Hw (Ag (Ag (Ag h)))) (Ak (Ag (Ag h))) fun s args KI hle hge=>by
  have hT:∃c1 d1 n1 o1,K.lookup T=some ⟨c1,d1,.seq #[Value.none] n1,o1⟩:=
   FQ (P:=fun o=>K.lookup T=o->∃c1 d1 n1 o1,K.lookup T=some ⟨c1,d1,.seq #[Value.none] n1,o1⟩) (Ak h) (fun o h e=>by
    obtain⟨c1,d1,d,o1⟩:=o
    exact VQ (P:=fun d=>K.lookup T=some ⟨c1,d1,d,o1⟩->∃c1 d1 n1 o1,K.lookup T=some ⟨c1,d1,.seq #[Value.none] n1,o1⟩) h (fun its n h e=>⟨c1,d1,n,o1,bq (P:=fun its=>K.lookup T=some ⟨c1,d1,.seq its n,o1⟩->K.lookup T=some ⟨c1,d1,.seq #[Value.none] n,o1⟩) h id e⟩) e) rfl
  obtain⟨c1,d1,n1,o1,hT⟩:=hT
  have bo:=fun a b c=>To (fd:=fx x bb) fd.po fd.va fd.ko fd.kw (eq_of_beq (Ak (Ak (Ag h)))) a b c .none
  have h4:=eq_of_beq (Ag (Ak (Ag h)))
  match args,hle,hge with
  | [a,b,c],_,_=>exact BindsTo.of_defaults h4 (KI _ _ hT) rfl ((kB _).2 _) (bo a b c).1
  | [a,b,c,d],_,_=>exact BindsTo.of_defaults h4 (KI _ _ hT) rfl ((kB _).2 _) ((bo a b c).2 d)
  | [],_,q=>exact absurd (show 4<=1 from q) (by decide)
  | [_],_,q=>exact absurd (show 4<=2 from q) (by decide)
  | [_,_],_,q=>exact absurd (show 4<=3 from q) (by decide)
  | _::_::_::_::_::r,q,_=>exact absurd (Nat.le_trans (Nat.le_add_left 5 r.length) q) (by decide)
noncomputable def zH(h:ExceptHandler)(k:Option Expr->Option Str->List Stmt->Bool):Bool:= @ExceptHandler.casesOn (fun J=>Bool) h fun t n b J=>k t n b
noncomputable def Yu(b:List Stmt)(k:Expr->Bool):Bool:=x1 b fun s=>GG s fun o J=>xo o k
theorem Ov{Q:List Stmt->Prop}{b:List Stmt}{k:Expr->Bool}(h:Yu b k=true)(f:∀e p,k e=true->Q [.Return (some e) p]):Q b:=
 Db h fun s h=>Gj (P:=fun s=>Q [s]) h fun o p h=>FQ (P:=fun o=>Q [.Return o p]) h fun e h=>f e p h
noncomputable def Qy(e:Expr)(nm:Str):Bool:=Dp e fun x J=>x==nm
theorem HV{P:Expr->Prop}{e:Expr}{nm:Str}(h:Qy e nm=true)(f:∀p,P (.Name nm p)):P e:=BH h fun x p h=>bq (P:=fun x=>P (.Name x p)) h (f p)
noncomputable def Yz(e:Expr)(o nm:Str):Bool:=Dt e fun x y J=>y==nm&&Qy x o
theorem Pd{P:Expr->Prop}{e:Expr}{o nm:Str}(h:Yz e o nm=true)(f:∀p q,P (.Attribute (.Name o p) nm q)):P e:=DC h fun x y q h=>bq (P:=fun y=>P (.Attribute x y q)) (Ag h) (HV (P:=fun x=>P (.Attribute x nm q)) (Ak h) fun p=>f p q)
noncomputable def aO(h:ExceptHandler):Bool:=zH h fun t n b=>xo t (fun e=>Qy e "Refusal")&&n==some ("error":Str)&&Yu b fun e=>Yz e "error" "message"
noncomputable def Q4(b:List Stmt):Bool:=x1 b fun s=>WW s fun b hs el fi J=>el.isEmpty&&fi.isEmpty&&(Yu b fun e=>MM e fun f as ks J=>as.isEmpty&&ks.isEmpty&&Qy f "ask")&&x1 hs aO
inductive CN:List Stmt->Prop
 | mk (p1 p2 p3 p4 p5 p6 p7 p8 p9:Pos):CN (EH p1 p2 p3 p4 p5 p6 p7 p8 p9)
theorem Ud{b:List Stmt}(h:Q4 b=true):CN b:=
 Db (P:=CN) h fun s h=>UR (P:=fun s=>CN [s]) h fun b hs el fi p9 h=>e0 (P:=fun el=>CN [.Try b hs el fi p9]) (Ag (Ag (Ag h)))<|e0 (P:=fun fi=>CN [.Try b hs [] fi p9]) (Ak (Ag (Ag h)))<|
 Ov (Q:=fun b=>CN [.Try b hs [] [] p9]) (Ak (Ag h)) fun e p3 h1=>Ir (P:=fun e=>CN [.Try [.Return (some e) p3] hs [] [] p9]) h1 fun f as ks p2 h1=>e0 (P:=fun as=>CN [.Try [.Return (some (.Call f as ks p2)) p3] hs [] [] p9]) (Ag (Ag h1))<|e0 (P:=fun ks=>CN [.Try [.Return (some (.Call f [] ks p2)) p3] hs [] [] p9]) (Ak (Ag h1))<|
 HV (P:=fun f=>CN [.Try [.Return (some (.Call f [] [] p2)) p3] hs [] [] p9]) (Ak h1) fun p1=>Db (P:=fun hs=>CN [.Try [.Return (some (.Call (.Name "ask" p1) [] [] p2)) p3] hs [] [] p9]) (Ak h) fun hd h=>by
  obtain⟨t,n,b,p8⟩:=hd
  refine FQ (P:=fun t=>CN [.Try [.Return (some (.Call (.Name "ask" p1) [] [] p2)) p3] [.ExceptHandler t n b p8] [] [] p9]) (Ag (Ag h)) fun e h1=>HV (P:=fun e=>CN [.Try [.Return (some (.Call (.Name "ask" p1) [] [] p2)) p3] [.ExceptHandler (some e) n b p8] [] [] p9]) h1 fun p4=> ?_
  refine bq (P:=fun n=>CN [.Try [.Return (some (.Call (.Name "ask" p1) [] [] p2)) p3] [.ExceptHandler (some (.Name "Refusal" p4)) n b p8] [] [] p9]) (Ak (Ag h)) ?_
  exact Ov (Q:=fun b=>CN [.Try [.Return (some (.Call (.Name "ask" p1) [] [] p2)) p3] [.ExceptHandler (some (.Name "Refusal" p4)) (some "error") b p8] [] [] p9]) (Ak h) fun e p7 h=>Pd (P:=fun e=>CN [.Try [.Return (some (.Call (.Name "ask" p1) [] [] p2)) p3] [.ExceptHandler (some (.Name "Refusal" p4)) (some "error") [.Return (some e) p7] p8] [] [] p9]) h fun p5 p6=> .mk p1 p2 p3 p4 p5 p6 p7 p8 p9
noncomputable def SH(K:Frag)(a:Addr):Bool:=PG K a fun x b=>Q4 b&&(Ip x ["ask"]&&YQ x.scope ["ask"])&&(x.scope.names.all (fun p=>p.2 != .cell)&&
 (x.scope.names.lookup ("ask":Str)==some .local&&(x.scope.names.lookup ("error":Str)==some .local&&x.scope.names.lookup ("Refusal":Str)==some .globalImplicit)))
theorem Qo{U:Un}{fK:Addr}(hn:nsIn U.K mainGlobals "_law_kept"=some (some (.ref fK)))(hk:keepIn U.K (.ref fK)=true)(h:SH U.K fK=true):UK U fK:=
 ⟨hn,hk,GY h fun oc od osl x b hl fd h=>by
  obtain⟨p1,p2,p3,p4,p5,p6,p7,p8,p9⟩:=Ud (Ag (Ag h))
  have sc:=Hw (Ak (Ak (Ag h)))
  have h2:=Ak h
  exact .mk _ _ _ _ _ _ _ _ _ _ _ _ _ _ p1 p2 p3 p4 p5 p6 p7 p8 p9 hl fd.cd sc.kind sc.co sc.gen (fun p hp=>bne_iff_ne.mp (List.all_eq_true.mp (Ag h2) p hp)) (eq_of_beq (Ag (Ak h2))) (eq_of_beq (Ag (Ak (Ak h2)))) (eq_of_beq (Ak (Ak (Ak h2)))) fun s a J=>Ek fd (Ag (Ak (Ag h))) sc.pnd (args:=[a]) rfl⟩
noncomputable def Fk(K:Frag)(a c:Addr):Bool:=PG K a fun x b=>(Ip x ((Γf .AY).take 1)&&YQ x.scope ((Γf .AY).take 1))&&Go true x.scope.names (Γf .AY) (prog .AY).body b&&(x.code== .ref c&&((x.qualname++".<locals>.")++"<lambda>"==CU))
theorem TK{U:Un}{fL c:Addr}(hc:codeHdIn U.K c U.tabA=true)(h:Fk U.K fL c=true):LK U fL c:=
 ⟨GY h fun oc od osl x b hl fd h=>by
  have sc:=Hw (Ak (Ag (Ag h)))
  have h6:=eq_of_beq (Ag (Ak h))
  have hb:=fun(s:Shared) (a:Value)=>Ek fd (b:=b) (s:=s) (Ag (Ag (Ag h))) sc.pnd (args:=[a]) (J4 .AY).symm
  have hcd:=fd.cd
  unfold fx at hl hb
  rw[h6]at hl hb hcd
  exact .mk _ _ _ _ _ _ _ _ _ _ _ _ _ _ hl hcd sc (Ak (Ag h)) (eq_of_beq (Ak (Ak h))) fun s a J=>hb s a,hc⟩
noncomputable def RM(b:List Stmt):Bool:=x1 b fun s=>E0 s fun ts e J=>x1 ts (fun t=>Yz t "self" "message")&&Qy e "message"
inductive Gg:List Stmt->Prop
 | mk (p1 p2 p3 p4:Pos):Gg [.Assign [.Attribute (.Name "self" p1) "message" p2] (.Name "message" p3) p4]
theorem Vv{b:List Stmt}(h:RM b=true):Gg b:=
 Db (P:=Gg) h fun s h=>D0 (P:=fun s=>Gg [s]) h fun ts e p4 h=>Db (P:=fun ts=>Gg [.Assign ts e p4]) (Ag h) fun t h1=>Pd (P:=fun t=>Gg [.Assign [t] e p4]) h1 fun p1 p2=>HV (P:=fun e=>Gg [.Assign [.Attribute (.Name "self" p1) "message" p2] e p4]) (Ak h) fun p3=> .mk p1 p2 p3 p4
noncomputable def Sv(K:Frag)(a:Addr):Bool:=PG K a fun x b=>RM b&&(Ip x ["self","message"]&&YQ x.scope ["self","message"])&&(DZ x.scope.names "self"&&DZ x.scope.names "message")
theorem SA{K:Frag}{fI:Addr}(h:Sv K fI=true):Nz K fI:=
 GY h fun oc od osl x b hl fd h=>by
  obtain⟨p1,p2,p3,p4⟩:=Vv (Ag (Ag h))
  have sc:=Hw (Ak (Ak (Ag h)))
  exact .mk _ _ _ _ _ _ _ _ _ _ _ _ _ _ p1 p2 p3 p4 hl fd.cd sc (Ag (Ak h)) (Ak (Ak h)) fun s a b J=>Ek fd (Ag (Ak (Ag h))) sc.pnd (args:=[a,b]) rfl
inductive K4:List (Option Value)->Prop
 | mk (k0 k1 k2 k3 k5:Option Value):K4 [k0,k1,k2,k3,some (.builtin "Exception.__new__"),k5]
noncomputable def YK(l:List (Option Value)):Bool:= @List.casesOn _ (fun J=>Bool) l false fun k0 l=> @List.casesOn _ (fun J=>Bool) l false fun k1 l=> @List.casesOn _ (fun J=>Bool) l false fun k2 l=> @List.casesOn _ (fun J=>Bool) l false fun k3 l=>x2 l fun k4 k5=>k4==some (.builtin "Exception.__new__")
theorem Z0{l:List (Option Value)}(h:YK l=true):K4 l:=
 @List.casesOn _ (fun l=>YK l=true->K4 l) l nf (fun k0 l=> @List.casesOn _ (fun l=>YK (k0::l)=true->K4 (k0::l)) l nf (fun k1 l=> @List.casesOn _ (fun l=>YK (k0::k1::l)=true->K4 (k0::k1::l)) l nf (fun k2 l=> @List.casesOn _ (fun l=>YK (k0::k1::k2::l)=true->K4 (k0::k1::k2::l)) l nf (fun k3 l h=>
  JL (P:=fun l=>K4 (k0::k1::k2::k3::l)) h fun k4 k5 h=>bq (P:=fun k4=>K4 [k0,k1,k2,k3,k4,k5]) h (.mk k0 k1 k2 k3 k5))))) h
noncomputable def dS(K:Frag)(C D:Addr):Bool:=xo (K.lookup C) fun o=>Yp o.data fun cd=>o.cls== .type "type"&&cd.mro== .ref C:: .ref D::B9&&(!cd.hasDel&&cd.hasDict)&&YK o.slots.toList
theorem Od{K:Frag}{C D:Addr}(h:dS K C D=true):S8 K C D/\∃cd,clsIn K C=some cd/\cd.mro=.ref C:: .ref D::B9/\cd.hasDict=true:=
 FQ (P:=fun o=>K.lookup C=o->S8 K C D/\∃cd,clsIn K C=some cd/\cd.mro=.ref C:: .ref D::B9/\cd.hasDict=true) h (fun o h=>by
  obtain⟨cl,dd,d,⟨sl⟩⟩:=o
  refine Vc (P:=fun d=>K.lookup C=some ⟨cl,dd,d,⟨sl⟩⟩->S8 K C D/\∃cd,clsIn K C=some cd/\cd.mro=.ref C:: .ref D::B9/\cd.hasDict=true) h fun cd h ho=> ?_
  have e1:cl=.type "type":=eq_of_beq (Ag (Ag (Ag h)))
  have hm:cd.mro=.ref C:: .ref D::B9:=eq_of_beq (Ak (Ag (Ag h)))
  have hdel:=nt (Ag (Ak (Ag h)))
  have hdd:=Ak (Ak (Ag h))
  refine⟨?_,cd,by unfold clsIn;rw[ho],hm,hdd⟩
  have hs:K4 sl:=Z0 (Ak h)
  clear h
  obtain⟨k0,k1,k2,k3,k5⟩:=hs
  cases e1
  obtain⟨nm,bs,mro,ns,qn,hd,sn,sub,ab,col,del⟩:=cd
  cases hm
  cases hdel
  exact .mk nm qn ns bs hd sn sub ab col dd k0 k1 k2 k3 k5 ho) rfl
noncomputable def P8(tb:String->Option Builtin)(p:Program)(w:World)(n₀:Nat)(ann:Option Value):Nat->SharedT->Thread->Option SharedT
 | 0,_,_=>none
 | n+1,s,t=>match through t with
  | true=>some s
  | false=>match stepOk n₀ ann t with
   | false=>none
   | true=>match stepT (denote tb) p w s t with
    | some (s',t')=>P8 tb p w n₀ ann n s' t'
    | none=>none
theorem JR{tb:String->Option Builtin}{p:Program}{w:World}{n₀:Nat}{ann:Option Value}:∀(n:Nat) {s r:SharedT} {t:Thread},P8 tb p w n₀ ann n s t=some r->topRun tb p w n₀ ann n s.abs t=some r.abs
 | 0,_,_,_,h=>by cases h
 | n+1,s,r,t,h=>by
  unfold P8 at h
  unfold topRun
  cases ht:through t with
  | true=>rw[ht]at h;cases h;rfl
  | false=>
   rw[ht]at h
   cases hk:stepOk n₀ ann t with
   | false=>rw[hk]at h;cases h
   | true=>
    rw[hk]at h
    cases hs:stepT (denote tb) p w s t with
    | none=>rw[hs]at h;cases h
    | some x=>
     obtain⟨s',t'⟩:=x
     rw[hs]at h
     rw[stepT_spec hs]
     exact JR n h
noncomputable def bt:List Obj->Nat->BT->BT
 | [],_,t=>t
 | o::r,i,t=>bt r (i+1) (t.ins i o)
noncomputable def aD{α:Type}:List α->Nat
 | []=>0
 | _::r=>(aD r).succ
noncomputable abbrev pw:=PySem.Challenge.pw_nz0526_01
noncomputable def dY(P:Params)(os:OsState):SharedT:=match boot_heap P with
 | ⟨⟨l⟩,life⟩=>⟨bt l 0 .nil,aD l,life,Array.mk [],boot_drawn,boot_toks,os⟩
theorem U8(P:Params)(os:OsState):(dY P os).abs=⟨boot_heap P,Array.mk [],boot_drawn,boot_toks,os⟩:=by kernel_rfl
noncomputable def Rv(w:World)(os:OsState):Option SharedT:=P8 treeTable pw w 11 (some (.ref 6)) 9188 (dY w.params os) (topStub pw)
theorem P5(P:Params):((boot_heap P).isNs mainGlobals&&(Array.mk []:Array GenState).size==0,(boot_heap P).objs.size,(boot_heap P).nsMap mainGlobals "__annotations__")=(true,11,some (.ref 6)):=by kernel_rfl
noncomputable abbrev qv:Program:=view pw [125]
noncomputable def Xz:List String:=["CoveError","Refusal","MOST_LENGTH","Null","Vector","Call","room","character","length","is_vector","is_atomic","own","share","get_attr","drop_attr","put_attr","names_of","dim_of","dimnames_of","NAN","INF","ZERO","gcd","make","from_int","is_na","is_finite","neg","to_whole","nearest_whole","exponent","MOST_EXPONENT","whole_text","special_text","scaled","significant","without_tail","scientific_text","fixed_text","measures","chosen_form","formed","common_texts","number_text","digits_value","digit_run","exponent_value","powered","unsigned_number","parse_number","MOST_INTEGER","kind_order","common_kind","note","as_logical_text","double_to_integer","text_to_double","to_logical","to_integer","to_double","to_text","item_as","is_atomic_kind","list_item_as","refuse_type","as_vector_kind","with_names","as_kind","as_list","whole_subscripts","first_places","partial_place","one_name","one_whole","one_place","strides","lacking_item","is_list_kind","refuse_subset","one_item","vector_element","array_element_place","environment_item","element_step","index_parts","is_long_index","element","dollar","converted_items","raised","extend_vector","first_count","delete_places","list_of_call","call_of_list","element_kind","put_element","assign_step","assign_down","assign_element","assign_dollar","_law_row","_law_next","_law_view","_law_kept","_law_names","_law_made","_law_list","_law_names_of","_law_spot","_law_element","_law_itemised","_law_put","_law_index","_law_shown"]
noncomputable abbrev Ha:List Str:=Xz.map Str.ofString
noncomputable abbrev cW:=PySem.Challenge.rw_nz0526_01.row
noncomputable abbrev aZ:Shared->Bool:=fun s=>xlAt qv [] s&&recOk (RowW.records cW.toRowW) s
noncomputable abbrev VX:=PySem.W.Fast.tw10156331382660048174
noncomputable abbrev fX:=PySem.W.Fast.tw6613529449190102663
noncomputable abbrev Zs:=PySem.W.Fast.tw11892475500146522536
noncomputable abbrev aQ:=PySem.W.Fast.tw14364793385576792824
noncomputable def Ur(tb:String->Option Builtin)(p:Program)(w:World)(n₀:Nat)(ann:Option Value):Nat->SharedT->Thread->Option SharedT
 | 0,_,_=>none
 | n+1,s,t=>match through t with
  | true=>some s
  | false=>match fX n₀ ann t with
   | false=>none
   | true=>match VX (Zs tb) p w s t with
    | some (s',t')=>Ur tb p w n₀ ann n s' t'
    | none=>none
theorem OQ{tb:String->Option Builtin}{p:Program}{w:World}{n₀:Nat}{ann:Option Value}:∀(n:Nat) (s:SharedT) (t:Thread),P8 tb p w n₀ ann n s t=Ur tb p w n₀ ann n s t
 | 0,_,_=>rfl
 | n+1,s,t=>by
  unfold P8 Ur
  have e1:fX=stepOk:=PySem.W.Fast.te6613529449190102663.symm
  have e2:VX=stepT:=PySem.W.Fast.te10156331382660048174.symm
  have e3:Zs=denote:=PySem.W.Fast.te11892475500146522536.symm
  rw[e1,e2,e3]
  cases through t with
  | true=>rfl
  | false=>
   dsimp only
   cases stepOk n₀ ann t with
   | false=>rfl
   | true=>
    dsimp only
    cases stepT (denote tb) p w s t with
    | none=>rfl
    | some x=>exact OQ n x.1 x.2
noncomputable def JV(w:World)(os:OsState):Option SharedT:=Ur aQ pw w 11 (some (.ref 6)) 9188 (dY w.params os) (topStub pw)
theorem R9(w:World)(os:OsState):Rv w os=JV w os:=by
 unfold Rv JV
 have e1:aQ=treeTable:=PySem.W.Fast.te14364793385576792824.symm
 rw[OQ,e1]
noncomputable abbrev Rh:=PySem.W.Fast.tw4187177175401517315
theorem WP(w:World)(os:OsState):(JV w os).map (fun r=>(staticsOk (importedModules pw.main.body) (boot_heap w.params) r.abs.heap&&namesBound pw r.abs.heap&&gensDone r.abs&&laidKept (boot_heap w.params) r.abs.heap,
  Rh qv Ha (importedModules pw.main.body) aZ true r.abs))=some (true,openGood qv Ha):=by kernel_rfl
theorem gN{β:Type}(Yf:Shared->β)(y:β)(w:World)(os:OsState)(hy:(JV w os).map (fun r=>Yf r.abs)=some y):∃r,Rv w os=some r/\
  (staticsOk (importedModules pw.main.body) (boot_heap w.params) r.abs.heap&&namesBound pw r.abs.heap&&gensDone r.abs&&laidKept (boot_heap w.params) r.abs.heap)=true/\
  Rh qv Ha (importedModules pw.main.body) aZ true r.abs=openGood qv Ha/\Yf r.abs=y:=by
 have ea:=WP w os
 rw[<-R9]at ea hy
 cases hr:Rv w os with
 | none=>rw[hr]at hy;cases hy
 | some r=>
  rw[hr,Option.map_some]at ea hy
  obtain⟨l1,l2⟩:=Prod.mk.inj (Option.some.inj ea)
  exact⟨r,rfl,l1,l2,Option.some.inj hy⟩
theorem dU(w:World)(os:OsState)(r:SharedT)(hr:Rv w os=some r):topRun treeTable pw w 11 (some (.ref 6)) 9188 ⟨boot_heap w.params,Array.mk [],boot_drawn,boot_toks,os⟩ (topStub pw)=some r.abs:=by
 have t1:=JR 9188 hr
 rw[U8]at t1
 exact t1
theorem b1:opening pw=plainProg pw.main.scope.names:=by rfl
theorem b2(s:Shared):fenceModules? pw s=some s:=by rfl
theorem bo(w:World):(fencedOpening treeTable pw w 9188).map (fun s=>(s.heap,s.gens,s.drawn,s.toks))=some (boot_heap w.params,Array.mk [],boot_drawn,boot_toks):=boot_open (p:=pw) (N:=9188) b1 (by rfl) b2 w
theorem b5(w:World)(os:OsState)(r:Shared)(l1:(staticsOk (importedModules pw.main.body) (boot_heap w.params) r.heap&&namesBound pw r.heap&&gensDone r&&laidKept (boot_heap w.params) r.heap)=true)(t1:topRun treeTable pw w 11 (some (.ref 6)) 9188 ⟨boot_heap w.params,Array.mk [],boot_drawn,boot_toks,os⟩ (topStub pw)=some r):  topFrom treeTable pw w 9188 ⟨boot_heap w.params,Array.mk [],boot_drawn,boot_toks,os⟩=some r:=by
  obtain⟨z1,z2,z3⟩:_/\_/\_:=by simpa only [Prod.mk.injEq]using P5 w.params
  unfold topFrom
  dsimp only
  rw[z1,z2,z3,t1]
  show(match staticsOk (importedModules pw.main.body) (boot_heap w.params) r.heap&&namesBound pw r.heap&&gensDone r&&laidKept (boot_heap w.params) r.heap with | true=>_ | false=>_)=_
  rw[l1]
theorem left{β:Type}(Yf:Shared->β)(y:β)(hY:∀w os,(JV w os).map (fun r=>Yf r.abs)=some y):LeftO pw qv Ha aZ Yf (fun J=>y) 9188:=fun w=>by
 obtain⟨⟨h,gs,d,k,os⟩,e,e'⟩:=Option.map_eq_some_iff.mp (bo w)
 obtain⟨rfl,rfl,rfl,rfl⟩:h=boot_heap w.params/\gs=Array.mk []/\d=boot_drawn/\k=boot_toks:=by simpa using e'
 obtain⟨r,hr,l1,l2,hy⟩:=gN Yf y w os (hY w os)
 have t:=b5 w os r.abs l1 (dU w os r hr)
 have e1:Rh= @openSeen:=PySem.W.Fast.te4187177175401517315.symm
 rw[e1]at l2
 have q:openEnds treeTable pw w 9188=some r.abs:=by unfold openEnds;rw[e,Option.bind_some,t]
 rw[q,Option.map_some,l2,hy]
theorem Bg{a b:Bool}(h:a=true)(g:b=true):(a&&b)=true:=by subst h;exact g
noncomputable abbrev fY:OpenRow:=PySem.W.Fast.tw2368527892694137696 PySem.Challenge.rw_nz0526_01
theorem ZS:PySem.W.Fast.tw12908688711261696721 (RowW.prog (OpenRow.toRowW fY))=true:=by
 unfold PySem.W.Fast.tw12908688711261696721
 refine Bg (Bg (Bg (Bg (Bg ?_ ?_) ?_) ?_) ?_) ?_<;>decide+kernel
theorem Z8:PySem.W.Fast.tw17960256430627541270 fY=true:=by
 unfold PySem.W.Fast.tw17960256430627541270 PySem.W.Fast.tw2436336058641802641
 refine Bg (Bg (Bg (Bg (Bg (Bg (Bg (Bg (Bg (Bg (Bg (Bg (Bg (Bg (Bg ZS ?_) ?_) ?_) ?_) ?_) ?_) ?_) ?_) ?_) ?_) ?_) ?_) ?_) ?_) ?_<;>decide+kernel
theorem YY:PySem.W.Fast.tw9446332074065402090 PySem.Challenge.rw_nz0526_01=true:=by
 unfold PySem.W.Fast.tw9446332074065402090
 refine Bg (Bg (Bg (Bg (Bg (Bg (Bg (Bg (Bg (Bg (Bg (Bg (Bg (Bg (Bg (Bg (Bg (Bg Z8 ?_) ?_) ?_) ?_) ?_) ?_) ?_) ?_) ?_) ?_) ?_) ?_) ?_) ?_) ?_) ?_) ?_) ?_<;>decide+kernel
theorem dO:PySem.Challenge.rw_nz0526_01.wellSaid=true:=by
 have e:PySem.W.Fast.tw9446332074065402090= @OpenLaw.wellSaid:=PySem.W.Fast.te9446332074065402090.symm
 rw[<-e];exact YY
noncomputable def WE:Fn->Addr
 | .Cm=>60
 | .An=>82
 | .AU=>89
 | .DJ=>125
 | .Bo=>132
 | .CM=>139
 | .Bq=>146
 | .Ck=>153
 | .IM=>160
 | .BJ=>167
 | .B3=>174
 | .Cn=>181
 | .CL=>188
 | .AO=>193
 | .C6=>200
 | .BZ=>403
 | .B7=>410
 | .DW=>466
 | .CZ=>473
 | .Bb=>480
 | .Cs=>506
 | .Ci=>511
 | .CD=>518
 | .Bm=>525
 | .A7=>532
 | .Bz=>539
 | .Cw=>546
 | .CQ=>553
 | .Bs=>560
 | .Bt=>574
 | .Ah=>581
 | .Cq=>595
 | .AM=>602
 | .AN=>621
 | .BN=>626
 | .A8=>633
 | .Bd=>640
 | .C5=>645
 | .AP=>652
 | .DG=>659
 | .BA=>666
 | .B5=>673
 | .BD=>680
 | .AX=>699
 | .AQ=>706
 | .AC=>713
 | .A5=>720
 | .Ay=>727
 | .Bh=>734
 | .Du=>741
 | .Ao=>748
 | .AE=>753
 | .BO=>765
 | .AZ=>770
 | .CK=>775
 | .Br=>782
 | .BX=>787
 | .A6=>794
 | .Bp=>799
 | .Be=>804
 | .Co=>811
 | .AW=>818
 | .AY=>825
noncomputable def K7:Dx->Addr
 | .null=>63
 | .vector=>92
noncomputable def Ze(prog:Program)(w:World)(K:Frag)(p:Program)(loose:List Str)(mean:ExcName->Option Value)(mg mb:Str->Option Value)(sa:Addr)(Aa:List Int):Un:=
 { prog:=prog,w:=w,K:=K,p:=p,loose:=loose,mean:=mean,mg:=mg,mb:=mb,cls:=K7,sa:=sa,Aa:=Aa,tabA:=820}
noncomputable def RH(K:Frag)(C:Addr)(a:Nat):Bool:=plainGet K C (wd a)&&takerIn K C (wd a)==some none&&findIn K (.ref C) (wd a)==some none
noncomputable def eM(K:Frag)(C:Addr):Bool:=hasDictIn K C&&findIn K (.ref C) "__setattr__"==some (some (.builtin "object.__setattr__"))&&plainOver K C&&kin_notT K C "str"&&plainGet K C "__class__"&&
 findIn K (.ref C) "__class__"==some (some (.builtin "object.__class__"))&&mroIn K C (.type "object")==some true&&makesIn K C&&keepIn K (.ref C)
noncomputable def cP(K:Frag)(f:Fn):Bool:=(Lc f||nsIn K mainGlobals (Rk f)==some (some (.ref (WE f))))&&keepIn K (.ref (WE f))&&isFn K (.ref (WE f))
noncomputable def Qs(K:Frag):Bool:=match nsIn K mainGlobals "MOST_LENGTH" with
 | some (some (.int i _))=>i==1000000
 | _=>false
noncomputable def Ht:List Fn:=[.Cm,.An,.AU,.DJ,.Bo,.CM,.Bq,.Ck,.IM,.BJ,.B3,.Cn,.CL,.AO,.C6,.BZ,.B7,.DW,.CZ,.Bb,.Cs,.Ci,.CD,.Bm,.A7,.Bz,.Cw,.CQ,.Bs,.Bt,.Ah,.Cq,.AM,.AN,.BN,.A8,.Bd,.C5,.AP,.DG,.BA,.B5,.BD,.AX,.AQ,.AC,.A5,.Ay,.Bh,.Du,.Ao,.AE,.BO,.AZ,.CK,.Br,.BX,.A6,.Bp,.Be,.Co,.AW,.AY]
theorem T4:∀f:Fn,Ht[f.ctorIdx]? =some f:=by intro f;cases f<;>rfl
theorem Pg(f:Fn):f ∈ Ht:=List.mem_of_getElem? (T4 f)
noncomputable def KC:Fn->Bool
 | .AY=>true
 | .An=>true
 | _=>false
theorem Ib:∀c,c ∈ [Dx.null,Dx.vector]:=by intro c;cases c<;>decide
noncomputable def Ni(K:Frag):List Bool:=[(Ht.all fun f=>KC f||dZ K false f (WE f)),
 (bV K 82 75),
 (Fk K 825 824),
 ([Dx.null,Dx.vector].all fun c=>CV.all fun a=>RH K (K7 c) a),
 ([Dx.null,Dx.vector].all fun c=>eM K (K7 c)),
 (Ht.all fun f=>cP K f),
 (specialIn K (.builtin "object.__class__") "__get__"==some (some (.builtin "getset_descriptor.__get__"))),
 (takesIn K (.builtin "object.__class__")==some true),
 (plainGet K 92 "copy"),
 (findIn K (.ref 92) "copy"==some (some (.ref 89))),
 ((K.lookup 63).isSome),
 (nsIn K mainGlobals "Refusal"==some (some (.ref 44))),
 (keepIn K (.ref 44)),
 (dS K 44 24),
 (tailIn K B9 (.ref 24::B9)),
 (findIn K (.ref 44) "__init__"==some (some (.ref 41))),
 (isFn K (.ref 41)),
 (Sv K 41),
 (findIn K (.ref 44) "__setattr__"==some (some (.builtin "object.__setattr__"))),
 (takerIn K 44 "message"==some none),
 (findIn K (.ref 44) "__getattribute__"==some (some (.builtin "BaseException.__getattribute__"))),
 (findIn K (.ref 44) "__getattr__"==some none),
 (findIn K (.ref 44) "message"==some none),
 (nsIn K mainGlobals "_law_kept"==some (some (.ref 760))),
 (keepIn K (.ref 760)),
 (SH K 760),
 (codeHdIn K 824 820),
 (noTabs K),
 (EE.all fun nm=>nsIn K mainGlobals (Str.ofString nm)==some none),
 ([Dx.null,Dx.vector].all fun c=>nsIn K mainGlobals (Str.ofString (FH c))==some (some (.ref (K7 c)))),
 ([Dx.null,Dx.vector].all fun c=>findIn K (.ref (K7 c)) "__init__"==some (some (.ref (WE (initOf c))))),
 (Qs K),
 (nsIn K mainGlobals "law"==some (some (.ref 825)))]
structure J7(K:Frag):Prop where
 fns:∀f ∈ Ht,(KC f||dZ K false f (WE f))=true
 vi:bV K 82 75=true
 law:Fk K 825 824=true
 a:∀c ∈ [Dx.null,Dx.vector],∀a ∈ CV,RH K (K7 c) a=true
 c:∀c ∈ [Dx.null,Dx.vector],eM K (K7 c)=true
 u:∀f ∈ Ht,cP K f=true
 kg1:specialIn K (.builtin "object.__class__") "__get__"=some (some (.builtin "getset_descriptor.__get__"))
 kg2:takesIn K (.builtin "object.__class__")=some true
 km1:plainGet K 92 "copy"=true
 km2:findIn K (.ref 92) "copy"=some (some (.ref 89))
 km4:(K.lookup 63).isSome=true
 kx1:nsIn K mainGlobals "Refusal"=some (some (.ref 44))
 kx2:keepIn K (.ref 44)=true
 kx3:dS K 44 24=true
 kx4:tailIn K B9 (.ref 24::B9)=true
 kx5:findIn K (.ref 44) "__init__"=some (some (.ref 41))
 kx6:isFn K (.ref 41)=true
 kx7:Sv K 41=true
 kx8:findIn K (.ref 44) "__setattr__"=some (some (.builtin "object.__setattr__"))
 kx9:takerIn K 44 "message"=some none
 kx10:findIn K (.ref 44) "__getattribute__"=some (some (.builtin "BaseException.__getattribute__"))
 kx11:findIn K (.ref 44) "__getattr__"=some none
 kx12:findIn K (.ref 44) "message"=some none
 kk1:nsIn K mainGlobals "_law_kept"=some (some (.ref 760))
 kk2:keepIn K (.ref 760)=true
 kk3:SH K 760=true
 kl1:codeHdIn K 824 820=true
 kl2:noTabs K=true
 b1:∀nm ∈ EE,nsIn K mainGlobals (Str.ofString nm)=some none
 b2:∀c ∈ [Dx.null,Dx.vector],nsIn K mainGlobals (Str.ofString (FH c))=some (some (.ref (K7 c)))
 m3:∀c ∈ [Dx.null,Dx.vector],findIn K (.ref (K7 c)) "__init__"=some (some (.ref (WE (initOf c))))
 most:Qs K=true
 kl3:nsIn K mainGlobals "law"=some (some (.ref 825))
theorem R5{K:Frag}(h:(Ni K).all id=true):J7 K:=by
 have h:=List.all_eq_true.mp h
 unfold Ni at h
 obtain⟨h_fns,h⟩:=CW.mp h
 obtain⟨h_vi,h⟩:=CW.mp h
 obtain⟨h_law,h⟩:=CW.mp h
 obtain⟨h_a,h⟩:=CW.mp h
 obtain⟨h_c,h⟩:=CW.mp h
 obtain⟨h_u,h⟩:=CW.mp h
 obtain⟨h_kg1,h⟩:=CW.mp h
 obtain⟨h_kg2,h⟩:=CW.mp h
 obtain⟨h_km1,h⟩:=CW.mp h
 obtain⟨h_km2,h⟩:=CW.mp h
 obtain⟨h_km4,h⟩:=CW.mp h
 obtain⟨h_kx1,h⟩:=CW.mp h
 obtain⟨h_kx2,h⟩:=CW.mp h
 obtain⟨h_kx3,h⟩:=CW.mp h
 obtain⟨h_kx4,h⟩:=CW.mp h
 obtain⟨h_kx5,h⟩:=CW.mp h
 obtain⟨h_kx6,h⟩:=CW.mp h
 obtain⟨h_kx7,h⟩:=CW.mp h
 obtain⟨h_kx8,h⟩:=CW.mp h
 obtain⟨h_kx9,h⟩:=CW.mp h
 obtain⟨h_kx10,h⟩:=CW.mp h
 obtain⟨h_kx11,h⟩:=CW.mp h
 obtain⟨h_kx12,h⟩:=CW.mp h
 obtain⟨h_kk1,h⟩:=CW.mp h
 obtain⟨h_kk2,h⟩:=CW.mp h
 obtain⟨h_kk3,h⟩:=CW.mp h
 obtain⟨h_kl1,h⟩:=CW.mp h
 obtain⟨h_kl2,h⟩:=CW.mp h
 obtain⟨h_b1,h⟩:=CW.mp h
 obtain⟨h_b2,h⟩:=CW.mp h
 obtain⟨h_m3,h⟩:=CW.mp h
 obtain⟨h_most,h⟩:=CW.mp h
 obtain⟨h_kl3,h⟩:=CW.mp h
 exact⟨List.all_eq_true.mp h_fns,h_vi,h_law,fun c hc a ha=>List.all_eq_true.mp (List.all_eq_true.mp h_a c hc) a ha,List.all_eq_true.mp h_c,List.all_eq_true.mp h_u,eq_of_beq h_kg1,eq_of_beq h_kg2,h_km1,eq_of_beq h_km2,h_km4,eq_of_beq h_kx1,h_kx2,h_kx3,h_kx4,eq_of_beq h_kx5,h_kx6,h_kx7,eq_of_beq h_kx8,eq_of_beq h_kx9,eq_of_beq h_kx10,eq_of_beq h_kx11,eq_of_beq h_kx12,eq_of_beq h_kk1,h_kk2,h_kk3,h_kl1,h_kl2,fun c hc=>eq_of_beq (List.all_eq_true.mp h_b1 c hc),fun c hc=>eq_of_beq (List.all_eq_true.mp h_b2 c hc),fun c hc=>eq_of_beq (List.all_eq_true.mp h_m3 c hc),h_most,eq_of_beq h_kl3⟩
theorem WR:∀i,i < 18->∀j,j < 18->∀t,F7 i j=some t->PySem.Txt.startswith (wd i) (wd j)=t:=by decide+kernel
theorem ZR:Tf F7:=by
 refine⟨fun i j t h=> ?_⟩
 by_cases hi:i < 18
 .by_cases hj:j < 18
  .exact WR i hi j hj t h
  .unfold F7 at h
   rw[if_neg (by omega)]at h;cases h
 .unfold F7 at h
  rw[if_neg (by omega)]at h;cases h
section
variable{pr:Program}{w:World}{K:Frag}{p:Program}{loose:List Str}{mean:ExcName->Option Value}{mg mb:Str->Option Value}{sa:Addr}{Aa:List Int}
theorem ZL(F:J7 K):UE (Ze pr w K p loose mean mg mb sa Aa) 44 24 41 (Classical.choose (Od F.kx3).2):=by
 have h:=Classical.choose_spec (Od F.kx3).2
 exact⟨F.kx1,F.kx2,(Od F.kx3).1,F.kx4,F.kx5,F.kx6,SA (F.kx7),h.1,h.2.1,h.2.2,F.kx8,F.kx9,F.kx10,F.kx11,F.kx12⟩
set_option tactic.hygienic true in
theorem Yk(F:J7 K):Mine.Txt (Ze pr w K p loose mean mg mb sa Aa) (.ref 44) WE Aa F7:=by
 have cl:=fun c=>F.c c (Ib c)
 unfold eM at cl
 simp only [DN,beq_iff_eq]at cl
 have uc:=fun f=>F.u f (Pg f)
 unfold cP at uc
 simp only [DN,beq_iff_eq,Bool.or_eq_true]at uc
 refine⟨⟨fun c a ha=> ?_,fun c=>(cl c).1.1.1.1.1.1.1.1,fun c=>(cl c).1.1.1.1.1.1.1.2,fun c=>(cl c).1.1.1.1.1.1.2⟩,⟨fun c=>(cl c).1.1.1.1.1.2,fun c=>(cl c).1.1.1.1.2,fun c=>(cl c).1.1.1.2,F.kg1,F.kg2,fun c=>(cl c).1.1.2⟩,
  ⟨F.b1,fun c=>F.b2 c (Ib c)⟩,⟨fun f hf=> ?_,fun f=>(uc f).1.2⟩,⟨F.km1,F.km2,fun f=>(uc f).2,fun c=>(cl c).1.2,fun c=>F.m3 c (Ib c),⟨(by decide:(3:Nat) < 63),F.km4⟩,fun c=>(cl c).2⟩,ZR,rfl,?_,⟨44,24,41,_,rfl,ZL F⟩,fun f hf=> ?_⟩
 .have:=F.a c (Ib c) a ha
  unfold RH at this
  simp only [DN,beq_iff_eq]at this
  exact⟨this.1.1,this.1.2,none,this.2,rfl⟩
 .rcases (uc f).1.1 with h | h
  .rw [hf]at h;cases h
  .exact h
 .have:=F.most
  unfold Qs at this
  split at this
  .rename_i i t e
   have:=eq_of_beq this
   subst this
   exact⟨t,e⟩
  .cases this
 .have hh:=F.fns f (Pg f)
  cases hs:KC f with
  | false=>rw[hs,Bool.false_or]at hh;exact Yw hh
  | true=>
   have:f=.An:=by cases f<;>first | rfl | (exact nomatch (show false=true from hs)) | (exact nomatch (show true=false from hf))
   subst this
   exact YI (T:=75) F.vi
theorem ZK(F:J7 K):UK (Ze pr w K p loose mean mg mb sa Aa) 760:=Qo F.kk1 F.kk2 F.kk3
theorem ZY(F:J7 K):LK (Ze pr w K p loose mean mg mb sa Aa) 825 824:=TK F.kl1 F.law
end
noncomputable def KD(o:Obj):Bool:=match o.data with
 | .freed=>true
 | _=>false
noncomputable def Oi(o:Obj):Bool:=match o.cls,o.data with
 | .none,.fields _=>false
 | _,_=> !KD o
theorem Yt{h:Heap}{a:Addr}{o:Obj}(e:h.objs[a]? =some o)(n:KD o=false):h.get? a=some o:=by
 unfold Heap.get?
 rw[e]
 obtain⟨_,_,d,_⟩:=o
 cases d<;>first | rfl | cases n
theorem Km{o:Obj}(h:Oi o=true):KD o=false:=by
 unfold Oi at h
 split at h
 .cases h
 .simpa using h
noncomputable def LU:List Addr->List Obj->Frag
 | a::r,o::q=>if Oi o=true then(a,o)::LU r q else LU r q
 | _,_=>[]
set_option tactic.hygienic true in
theorem EG{a:Addr}{o:Obj}:∀{as:List Addr} {os:List Obj},(a,o) ∈ LU as os->(a,o) ∈ as.zip os/\KD o=false
 | [],_,h=>by cases h
 | _::_,[],h=>by cases h
 | x::r,y::q,h=>by
  unfold LU at h
  rw[List.zip_cons_cons]
  split at h
  .rename_i hn
   rcases List.mem_cons.mp h with h | h
   .cases h;exact⟨.head _,Km hn⟩
   .exact ⟨.tail _ (EG h).1,(EG h).2⟩
  .exact ⟨.tail _ (EG h).1,(EG h).2⟩
noncomputable def Nu(h:Heap):Frag:=LU (List.range 826) h.objs.toList
theorem PT(h:Heap):(Nu h).In h:=fun a o e=>by
 obtain⟨m,nf⟩:=EG (mem_of_lookupK e)
 obtain⟨i,hi,q⟩:=List.getElem_of_mem m
 rw[List.getElem_zip]at q
 obtain⟨q1,q2⟩:=Prod.mk.inj q
 rw[List.getElem_range]at q1
 subst q1
 refine Yt ?_ nf
 rw[List.length_zip]at hi
 rw[<-Array.getElem?_toList,Er]
 exact⟨by omega,q2⟩
noncomputable abbrev yf(h:Heap):Bool×Option Obj:=((Ni (Nu h)).all id,h.get? 820)
theorem Xi(w:World)(os:OsState):(JV w os).map (fun r=>yf r.abs.heap)=some (true,some (tabObj #[])):=by kernel_rfl
end
open Fn
open PySem PySem.W PyProof.Rows PySem.Calls PySem.SeqAt
theorem Si{vs:List Value}{ns:List Int}(h:IntsAre vs ns):vs.length=ns.length:=by
 have:=IntsAre.sizeZ h
 rw[List.size_toArray]at this
 omega
noncomputable def cM(_:World)(h:Heap):Prop:=∃K,J7 K/\K.In h/\h.get? 820=some (tabObj #[])
theorem top_of(plain:∀Aa:List Int,Aa.length<=63->∃H',DY prog Aa F7 initOf 16 .AY [.ext] [.tab]=.ok (.bool true) H'/\H'[0]? =some .tab):PySem.Challenge.rw_nz0526_01.Holds:=by
 refine holds_law dO fun said'=> ?_
 refine holds_open (q:=qv) (loose:=Ha) (Xt:=aZ) (XP:=XL qv []) (Yf:=fun s=>yf s.heap) (Ya:=fun J=>(true,some (tabObj #[]))) (YP:=cM) (N:=9188) (left (fun s=>yf s.heap) _ Xi)
  (fun w s e=>⟨Nu s.heap,R5 (congrArg Prod.fst e),PT _,congrArg Prod.snd e⟩)
  (fun w h h' ⟨K,F,I,t⟩ k=>⟨K,F,I.keeps k,k _ _ t⟩)
  (fun s e=>xl_of s (Bool.and_eq_true_iff.mp e).1) XL.keeps (by rfl) (by rfl) (by rfl) (fun s e=>recFacts_of (Bool.and_eq_true_iff.mp e).2) rfl said' (by kernel_rfl) ⟨rfl,rfl,rfl,rfl,rfl,by decide+kernel⟩ ?hw ?hc
 case hw=>w_witness2
 case hc=>
  intro w s₀ s₁ mg mb G Y fa o pm cd doc dV kV ho hd hcd hD hmg hg args vals as hpre hlay hrd hwl hlo
  obtain⟨K,F,KX,hT⟩:=Y
  refine Ground.open G ?_
  intro T B D TE TW
  try (refine guard_noD D (by decide+kernel) ?_;clear D)
  have hT9:TabsAt ([(824,820)]:List (Addr×Addr)) _:=CW.mpr ⟨⟨codeHd_of_K (c:=824) (P:=820) KX F.kl1,hT⟩,fun J h=>nomatch h⟩
  have hfa:fa=825:=by
   have e:=mg_of KX (Top.g T) F.kl3
   have e2:=e.symm.trans hmg
   cases e2;rfl
  subst hfa
  clear hmg ho hd hcd
  wrow_args hpre hlay hrd hwl hlo
  refine enter_call ?_
  rename Heap.IsList _ _ _=>hL
  rename IntsAre _ _=>hI
  rename (¬_ < _)=>hc
  refine kn_post hT9 (fun J J=>rfl) ?_
  refine U6 (U:=Ze PySem.Challenge.rw_nz0526_01.row.prog w K topProg _ _ mg mb _ _) (G:=ghostOf s₁.heap [(824,820)]) (d:=15) (Yk F) (ZK F) (ZY F) ⟨ghost_K hT9 KX F.kl2,ghost_top hT9 T,⟨_,ghost_list hT9 hL,hI,?_⟩⟩ T.nolimit KX (fun b o e=>of_hideAll _ e) (Nat.le_of_eq (hideAll_size _ _)) hT (hideAll_none _ (.head _)) (by decide:(3:Nat) < 820) (by decide) (by decide) (plain _ ?_) fun h' CG keep gr=> ?_
  .rw [Si hI,sizeLine_eq];omega
  .omega
  .refine ⟨⟨.inl ⟨.bool true,.bool true,[],rfl,fun J=>rfl,.bool true,?_,unshared_nil⟩,keep,rfl,hg⟩,gr,trivial⟩
   wrow_post
end Mine
theorem PySem.Challenge.cw_nz0526_01_holds : PySem.Challenge.rw_nz0526_01.Holds :=
  Mine.top_of fun s _ => Mine.P.plain_law s
