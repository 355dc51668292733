import PyProof.Rows.All
import Wide.All
import OpenK.AllK
import Wide.FinOn
import KE.KLam
import KE.KDictAnyGet
import KE.KExtendNil
import KE.KIsNot
import KE.KItem
import KE.KListMore
import KE.KPopAny
import KE.KTab
import PyProof.DictCompW
import PyProof.DictWalks
import PyProof.ExcAttrAll.Exception
import PyProof.ExcBaseAll.Exception
import PyProof.ExcClass3
import PyProof.InstStoreFacts
import PyProof.IsiHeapPairs
import PyProof.IsiPairs
import PyProof.RangeFor
import PyProof.Rows.PlainEq
import PyProof.Rows.TupAssign
import PySem.Challenge.RW_nz0526_01
set_option Elab.async false
set_option genSizeOf false
set_option genCtorIdx false
set_option tactic.hygienic false
set_option maxRecDepth 100000
set_option maxHeartbeats 8000000
set_option linter.unusedSimpArgs false
set_option linter.unusedVariables false
namespace Mine
section
set_option genCtorIdx true in
inductive V where
 | none | bool (b:Bool) | int (i:Int) | w (i:Nat) | dec (i:Int) | ref (a:Nat) | ext
 deriving DecidableEq
set_option genCtorIdx true in
inductive Dz where | null | vector
 deriving DecidableEq
set_option genCtorIdx true in
inductive Af where
 | list (xs:List V)
 | tup (xs:List V)
 | dictW (kvs:List (Nat×V))
 | dictP (kvs:List (Nat×V))
 | dictI (kvs:List (Int×V))
 | inst (c:Dz) (fs:List (Nat×V))
 | tab
 deriving DecidableEq
set_option genInjectivity false
noncomputable abbrev MH:=List Af
inductive R(α:Type) where
 | ok (a:α) (H:MH)
 | exc (m:Nat) (H:MH)
 | bad
noncomputable def R.ctorIdx{α:Type}(x:R α):Nat:= @R.casesOn α (fun J=>Nat) x (fun J J=>0) (fun J J=>1) 2
noncomputable abbrev M(α:Type):=MH->R α
noncomputable def ret{α:Type}(a:α):M α:=fun H=> .ok a H
noncomputable def bad{α:Type}:M α:=fun J=> .bad
noncomputable def XF{α:Type}(m:Nat):M α:=fun H=> .exc m H
noncomputable def bnd{α β:Type}(m:M α)(f:α->M β):M β:=fun H=>match m H with
 | .ok a H'=>f a H'
 | .exc e H'=> .exc e H'
 | .bad=> .bad
noncomputable def alloc(c:Af):M V:=fun H=> .ok (.ref H.length) (H++[c])
section
variable{α:Type}
noncomputable def vB(v:V)(d:α)(k:Bool->α):α:= @V.casesOn (fun J=>α) v d k (fun J=>d) (fun J=>d) (fun J=>d) (fun J=>d) d
noncomputable def vI(v:V)(d:α)(k:Int->α):α:= @V.casesOn (fun J=>α) v d (fun J=>d) k (fun J=>d) (fun J=>d) (fun J=>d) d
noncomputable def vW(v:V)(d:α)(k:Nat->α):α:= @V.casesOn (fun J=>α) v d (fun J=>d) (fun J=>d) k (fun J=>d) (fun J=>d) d
noncomputable def vR(v:V)(d:α)(k:Nat->α):α:= @V.casesOn (fun J=>α) v d (fun J=>d) (fun J=>d) (fun J=>d) (fun J=>d) k d
noncomputable def cL(c:Af)(d:α)(k:List V->α):α:= @Af.casesOn (fun J=>α) c k (fun J=>d) (fun J=>d) (fun J=>d) (fun J=>d) (fun J J=>d) d
noncomputable def cT(c:Af)(d:α)(k:List V->α):α:= @Af.casesOn (fun J=>α) c (fun J=>d) k (fun J=>d) (fun J=>d) (fun J=>d) (fun J J=>d) d
noncomputable def cD(c:Af)(d:α)(k:List (Nat×V)->α):α:= @Af.casesOn (fun J=>α) c (fun J=>d) (fun J=>d) k (fun J=>d) (fun J=>d) (fun J J=>d) d
noncomputable def cN(c:Af)(d:α)(k:Dz->List (Nat×V)->α):α:= @Af.casesOn (fun J=>α) c (fun J=>d) (fun J=>d) (fun J=>d) (fun J=>d) (fun J=>d) k d
end
noncomputable def Co{α:Type}:Option α->M α
 | some a=>ret a
 | Option.none=>bad
noncomputable def B6(v:V):M Af:=vR v bad fun a H=>Co H[a]? H
noncomputable def Jz{α:Type}(v:V)(k:Nat->Af->M α):M α:=vR v bad fun a=>bnd (B6 (.ref a)) (k a)
noncomputable def D0(v:V)(c:Af):M Unit:=vR v bad fun a H=> .ok () (H.set a c)
mutual
inductive U8 where | add | sub | mul | mod | fdiv
inductive gG where | z
end
mutual
inductive VP where | eq | ne | lt | le | gt | ge | isin | notin
inductive gV where | z
end
mutual
inductive Ty where | str | int | list
inductive iC where | z
end
noncomputable def oC(o:Option Af)(k:Af->Bool):Bool:= @Option.casesOn _ (fun J=>Bool) o false k
noncomputable def Zq(g:V->V->Bool)(x y:List (Nat×V)):Bool:= @List.casesOn _ (fun J=>Bool) x y.isEmpty fun p r=> @List.casesOn _ (fun J=>Bool) y false fun q t=>r.isEmpty&&t.isEmpty&&(p.1==q.1&&g p.2 q.2)
noncomputable def RN(f:List V->List V->Bool)(g:V->V->Bool)(c d:Af):Bool:= @Af.casesOn (fun J=>Bool) c (fun x=>cL d false (f x)) (fun x=>cT d false (f x)) (fun x=>cD d false (Zq g x)) (fun J=>false) (fun J=>false) (fun J J=>false) false
mutual
noncomputable def Kb:Nat->MH->V->V->Bool
 | 0,_,_,_=>false
 | n+1,H,a,b=> @V.casesOn (fun J=>Bool) a (@V.casesOn (fun J=>Bool) b true (fun J=>false) (fun J=>false) (fun J=>false) (fun J=>false) (fun J=>false) false)
  (fun x=>vB b false fun y=>x==y) (fun x=>vI b false fun y=>x==y) (fun x=>vW b false fun y=>x==y) (fun x=> @V.casesOn (fun J=>Bool) b false (fun J=>false) (fun J=>false) (fun J=>false) (fun y=>x==y) (fun J=>false) false)
  (fun x=>vR b false fun y=>oC H[x]? fun c=>oC H[y]? fun d=>RN (Jw n H) (Kb n H) c d) false
noncomputable def Jw:Nat->MH->List V->List V->Bool
 | 0,_,_,_=>false
 | n+1,H,x,y=> @List.casesOn _ (fun J=>Bool) x y.isEmpty fun a r=> @List.casesOn _ (fun J=>Bool) y false fun b q=>Kb n H a b&&Jw n H r q
end
noncomputable def Jp:Nat:=64
noncomputable def Zb(c:Af):Bool:= @Af.casesOn (fun J=>Bool) c (fun J=>true) (fun J=>true) (fun J=>false) (fun J=>false) (fun J=>false) (fun J J=>false) false
noncomputable def JA(b t:Bool):Option Bool:= @Bool.casesOn (fun J=>Option Bool) b none (some t)
noncomputable def WA(c d:Af):Option Bool:=cL c none fun x=>cL d none fun y=>JA (x.isEmpty||y.isEmpty) (x.isEmpty&&y.isEmpty)
noncomputable def Z9(a b:Option Bool):Option Bool:= @Option.casesOn _ (fun J=>Option Bool) a b some
noncomputable def SU(H:MH)(a b:V):Option Bool:= @V.casesOn (fun J=>Option Bool) a
 (@V.casesOn (fun J=>Option Bool) b (some true) (fun J=>none) (fun J=>none) (fun J=>some false) (fun J=>none) (fun J=>none) none)
 (fun J=>none)
 (fun x=> @V.casesOn (fun J=>Option Bool) b none (fun J=>none) (fun y=>some (x==y)) (fun J=>some false) (fun J=>none) (fun J=>none) none)
 (fun x=> @V.casesOn (fun J=>Option Bool) b (some false) (fun J=>none) (fun J=>some false) (fun y=>some (x==y)) (fun J=>none) (fun J=>none) none)
 (fun x=> @V.casesOn (fun J=>Option Bool) b none (fun J=>none) (fun J=>none) (fun J=>none) (fun y=>JA (decide (x=y)) true) (fun J=>none) none)
 (fun x=> @V.casesOn (fun J=>Option Bool) b none (fun J=>none) (fun J=>none) (fun J=>JA (oC H[x]? Zb) false) (fun J=>none)
  (fun y=>Z9 (@Option.casesOn _ (fun J=>Option Bool) H[x]? none fun c=> @Option.casesOn _ (fun J=>Option Bool) H[y]? none fun d=>WA c d) (JA (Kb Jp H a b) true)) none)
 none
noncomputable def wn:V->Bool
 | .w _=>true
 | .none=>true
 | _=>false
noncomputable def J3(k:Nat)(y:V):Bool:=decide (y=.w k)
noncomputable def Do(k:Nat):List (Nat×V)->Option V
 | []=>Option.none
 | p::r=>if p.1=k then some p.2 else Do k r
noncomputable def Ft(k:Int):List (Int×V)->Option V
 | []=>Option.none
 | p::r=>if p.1=k then some p.2 else Ft k r
noncomputable def ET(k:Nat)(v:V):List (Nat×V)->List (Nat×V)
 | []=>[(k,v)]
 | p::r=>if p.1=k then(k,v)::r else p::ET k v r
noncomputable def L7(k:Int)(v:V):List (Int×V)->List (Int×V)
 | []=>[(k,v)]
 | p::r=>if p.1=k then(k,v)::r else p::L7 k v r
noncomputable def fE(x:V)(xs:List V):M Bool:=vW x bad fun k=>if xs.all wn=true then ret (xs.any (J3 k))else bad
noncomputable def hZ(x:V)(c:Af):M Bool:= @Af.casesOn (fun J=>M Bool) c (fE x) (fE x) (fun kvs=>vW x bad fun k=>ret (Do k kvs).isSome) (fun J=>bad) (fun kvs=>vI x bad fun k=>ret (Ft k kvs).isSome) (fun J J=>bad) bad
noncomputable def RW(x c:V):M Bool:=bnd (B6 c) (hZ x)
noncomputable def aR(m:M Bool):M Bool:=bnd m fun b=>ret !b
noncomputable def Ha{α:Type}(a b:V)(k:Int->Int->M α):M α:=vI a bad fun x=>vI b bad (k x)
noncomputable def Tt(op:VP)(a b:V):M Bool:=match op with
 | .eq=>fun H=>Co (SU H a b) H
 | .ne=>aR fun H=>Co (SU H a b) H
 | .isin=>RW a b
 | .notin=>aR (RW a b)
 | .lt=>Ha a b fun x y=>ret (decide (x < y))
 | .le=>Ha a b fun x y=>ret (decide (x<=y))
 | .gt=>Ha a b fun x y=>ret (decide (y < x))
 | .ge=>Ha a b fun x y=>ret (decide (y<=x))
noncomputable def BR:Nat:=100000
noncomputable def Ok(op:U8)(a b:V):M V:=match op with
 | .add=>vI a (vR a bad fun l=>vR b bad fun r=>bnd (B6 (.ref l)) fun c=>bnd (B6 (.ref r)) fun d=>cL c bad fun xs=>cL d bad fun ys=>if xs.length+ys.length<=BR then alloc (.list (xs++ys))else bad) fun x=>vI b bad fun y=>ret (.int (x+y))
 | .sub=>Ha a b fun x y=>ret (.int (x - y))
 | .mod=>Ha a b fun x y=>if 0 < y then ret (.int (x % y))else bad
 | .fdiv=>Ha a b fun x y=>if y=1024 then ret (.int (x / y))else bad
 | .mul=>vR a bad fun l=>vI b bad fun k=>bnd (B6 (.ref l)) fun c=>cL c bad fun xs=> @List.casesOn _ (fun J=>M V) xs bad fun x r=>if r.isEmpty=true/\0<=k/\k<=1000 then alloc (.list (List.replicate k.toNat x))else bad
noncomputable def AG(v:V):M Bool:=vB v bad ret
noncomputable def TN(v:V):M V:=bnd (B6 v) fun c=>cL c bad fun xs=>if xs.length<=BR then ret (.int xs.length)else bad
noncomputable def VW(i:V)(xs:List V):M V:=vI i bad fun k=>if 0<=k/\k<=BR then Co xs[k.toNat]? else bad
noncomputable def Rj(i:V)(kvs:List (Nat×V)):M V:=vW i bad fun k=>Co (Do k kvs)
noncomputable def W5(o i:V):M V:=bnd (B6 o) fun c=> @Af.casesOn (fun J=>M V) c (VW i) (VW i) (Rj i) (Rj i) (fun J=>bad) (fun J J=>bad) bad
noncomputable def Tv(o:V)(a:Nat):M V:=bnd (B6 o) fun c=>cN c bad fun J fs=>Co (Do a fs)
noncomputable def IB(o:V)(a:Nat)(v:V):M Unit:=Jz o fun l c=>cN c bad fun k fs=>if fs.length < 100 then D0 (.ref l) (.inst k (ET a v fs))else bad
noncomputable def Dk(o k v:V):M Unit:=Jz o fun l c=> @Af.casesOn (fun J=>M Unit) c (fun xs=>vI k bad fun i=>if 0<=i/\i < xs.length/\xs.length<=BR then D0 (.ref l) (.list (xs.set i.toNat v))else bad) (fun J=>bad)
 (fun kvs=>vW k bad fun i=>if kvs.length < 100 then D0 (.ref l) (.dictW (ET i v kvs))else bad) (fun J=>bad)
 (fun kvs=>vI k bad fun i=>if kvs.length < 100/\0<=i/\i<=BR then D0 (.ref l) (.dictI (L7 i v kvs))else bad) (fun J J=>bad) bad
noncomputable def cutTo(Aa:List Int)(o k:V):M V:=vI k bad fun i=> @V.casesOn (fun J=>M V) o bad (fun J=>bad) (fun J=>bad) (fun J=>bad) (fun J=>bad)
 (fun J=>bnd (B6 o) fun c=>cL c bad fun xs=>if 0<=i/\i<=BR/\xs.length<=BR then alloc (.list (xs.take i.toNat))else bad)
 (if i=40 then alloc (.list ((Aa.take 40).map .int))else bad)
noncomputable def cutFrom(o k:V):M V:=vI k bad fun i=>bnd (B6 o) fun c=>cL c bad fun xs=>if 0<=i/\i<=BR/\xs.length<=BR then alloc (.list (xs.drop i.toNat))else bad
noncomputable def Pj(v:V):M V:=bnd (B6 v) fun c=>cL c bad fun xs=>if xs.length<=BR then alloc (.list xs)else bad
noncomputable def Oz(v:V):M V:=bnd (B6 v) fun c=>cD c bad fun kvs=>if kvs.length < 100 then alloc (.dictW kvs)else bad
noncomputable def UH(v:V):M V:=vI v bad fun i=>if 0<=i/\i<=BR then ret (.dec i)else bad
noncomputable def X3(a b:V):M V:=Ha a b fun x y=>ret (.int (if y > x then y else x))
noncomputable def cH(t:Ty)(c:Af):Option Bool:= @Af.casesOn (fun J=>Option Bool) c (fun J=> @Ty.casesOn (fun J=>Option Bool) t none none (some true)) (fun J=> @Ty.casesOn (fun J=>Option Bool) t none none (some false)) (fun J=>none) (fun J=>none) (fun J=>none) (fun J J=> @Ty.casesOn (fun J=>Option Bool) t (some false) none none) none
noncomputable def Os(v:V)(t:Ty):M V:= @V.casesOn (fun J=>M V) v bad (fun J=>bad) (fun J=> @Ty.casesOn (fun J=>M V) t (ret (.bool false)) (ret (.bool true)) bad) (fun J=> @Ty.casesOn (fun J=>M V) t (ret (.bool true)) (ret (.bool false)) bad) (fun J=>bad)
 (fun a=>bnd (B6 (.ref a)) fun c=>bnd (Co (cH t c)) fun b=>ret (.bool b)) bad
noncomputable def aO(c:Dz):Bool:= @Dz.casesOn (fun J=>Bool) c false true
noncomputable def Jb(v:V):M V:=bnd (B6 v) fun c=>cN c bad fun k J=>if aO k=true then ret (.bool true)else bad
noncomputable def Ib(o v:V):M V:=Jz o fun l c=>cL c bad fun xs=>if xs.length<=BR then bnd (D0 (.ref l) (.list (xs++[v]))) fun J=>ret .none else bad
noncomputable def CI(o v:V):M V:=if o=v then bad else Jz o fun l c=>bnd (B6 v) fun d=>cL c bad fun xs=>cL d bad fun ys=>if xs.length+ys.length<=BR then bnd (D0 (.ref l) (.list (xs++ys))) fun J=>ret .none else bad
noncomputable def Rv(v:V):Bool:=vI v false fun J=>true
noncomputable def Ul(o:V):M V:=Jz o fun l c=>cL c bad fun xs=>if xs.length<=BR/\xs.all Rv=true then bnd (Co xs.getLast?) fun x=>bnd (D0 (.ref l) (.list xs.dropLast)) fun J=>ret x else bad
noncomputable def Gv(o:V):M V:=Jz o fun l c=>cL c bad fun xs=>if xs.length<=BR then bnd (D0 (.ref l) (.list xs.reverse)) fun J=>ret .none else bad
noncomputable def V2(x:V)(xs:List V):M V:=vW x bad fun k=>if xs.all wn=true/\xs.length<=BR then bnd (Co (xs.findIdx? (J3 k))) fun(i:Nat)=>ret (.int i)else bad
noncomputable def NO(tp:Bool)(o x:V):M V:=bnd (B6 o) fun c=> @Bool.casesOn (fun J=>M V) tp (cL c bad (V2 x)) (cT c bad (V2 x))
noncomputable def PH(o k d:V):M V:=bnd (B6 o) fun c=>cD c bad fun kvs=>vW k bad fun i=>ret ((Do i kvs).getD d)
noncomputable def Qn(v:V):M Unit:=bnd (B6 v) fun c=>cL c bad fun J=>ret ()
noncomputable def VC(v:V):M Unit:=bnd (B6 v) fun c=>cD c bad fun J=>ret ()
noncomputable def Xw(v:V):M Bool:=bnd (B6 v) fun c=>cL c (cT c bad fun J=>ret true) fun J=>ret false
noncomputable def XT(v:V):M Unit:=vW v bad fun J=>ret ()
noncomputable abbrev Fi:=Nat->Nat->Option Bool
noncomputable def Kn(bg:Fi)(o k:V):M V:=vW o bad fun a=>vW k bad fun b=>bnd (Co (bg a b)) fun t=>ret (.bool t)
inductive ME(F:Type) where
 | O (i:Nat)
 | cst (v:V)
 | usub (k:Nat)
 | gmax
 | attr (e:ME F) (a:Nat)
 | idx (e i:ME F)
 | cutTo (e k:ME F)
 | cutFrom (e k:ME F)
 | bin (op:U8) (a b:ME F)
 | cmp (op:VP) (a b:ME F)
 | isNone (neg:Bool) (e:ME F)
 | inW (neg:Bool) (e:ME F) (ws:List Nat)
 | and2 (a b:ME F)
 | or2 (a b:ME F)
 | not (a:ME F)
 | ite (c a b:ME F)
 | lst (es:List (ME F))
 | tup (es:List (ME F))
 | dct0
 | dct0I
 | dct1 (k:Nat) (e:ME F)
 | call (f:F) (es:List (ME F))
 | mk (c:Dz) (es:List (ME F))
 | len (e:ME F)
 | listOf (e:ME F)
 | dictOf (e:ME F)
 | strOf (e:ME F)
 | max2 (a b:ME F)
 | isV (e:ME F)
 | isT (e:ME F) (t:Ty)
 | append (o e:ME F)
 | extend (o e:ME F)
 | pop (o:ME F)
 | reverse (o:ME F)
 | index (o e:ME F)
 | get1 (o k:ME F)
 | get2 (o k d:ME F)
 | starts (o k:ME F)
 | mcall (o:ME F) (f:F)
 | comp (elt it:ME F)
 | compR (elt n:ME F)
 | compIf (elt cond n:ME F)
 | dcomp (v it:ME F)
 | kept (e:ME F)
 | bad
inductive MS(F:Type) where
 | asg (i:Nat) (e:ME F)
 | asgT (is:List Nat) (e:ME F)
 | setA (o:ME F) (a:Nat) (e:ME F)
 | setI (o k e:ME F)
 | augL (i:Nat) (e:ME F)
 | ex (e:ME F)
 | ret (e:ME F)
 | ret0
 | ifs (c:ME F) (t e:List (MS F))
 | forN (i:Nat) (n:ME F) (b:List (MS F))
 | forR (i:Nat) (lo hi:ME F) (b:List (MS F))
 | forE (i:Nat) (it:ME F) (b:List (MS F))
 | forD (i:Nat) (it:ME F) (b:List (MS F))
 | raise (m:Nat)
 | bad
structure Iv(F:Type) where
 Aa:List Int
 bg:Fi
 initOf:Dz->F
 call:F->List V->M V
noncomputable abbrev Env:=List (Option V)
noncomputable def HJ(v:V):M (List V):=bnd (B6 v) fun c=>cL c bad fun xs=>if xs.length<=BR then ret xs else bad
noncomputable def getD(v:V):M (List (Nat×V)):=bnd (B6 v) fun c=>cD c bad fun kvs=>if kvs.length < 100 then ret kvs else bad
noncomputable def stays(v:V)(c:Af):M Unit:=bnd (B6 v) fun c'=>if c'=c then ret ()else bad
noncomputable def BU(lo hi:Int):List V:=(List.range (hi - lo).toNat).map fun(k:Nat)=> .int (lo+(k:Int))
noncomputable def Bx(f:V->M (Option V))(post:M Unit):List V->M (List V)
 | []=>ret []
 | x::r=>bnd (f x) fun y=>bnd post fun J=>bnd (Bx f post r) fun ys=>ret (y.toList++ys)
noncomputable def still{α:Type}(m:M α):M α:=fun H=>match m H with
 | .exc _ _=> .bad
 | r=>r
noncomputable def JV(m:M V):M V:=fun H=>match m H with
 | .exc e H'=> .ok (.w e) H'
 | r=>r
section
variable{F:Type}(C:Iv F)
mutual
noncomputable def Ac:ME F->Env->M V
 | .O i,env=>Co (env[i]?).join
 | .cst v,_=>ret v
 | .usub k,_=>ret (.int (-(k:Int)))
 | .gmax,_=>ret (.int 1000000)
 | .attr e a,env=>bnd (Ac e env) fun o=>Tv o a
 | .idx e i,env=>bnd (Ac e env) fun o=>bnd (Ac i env) fun k=>W5 o k
 | .cutTo e k,env=>bnd (Ac e env) fun o=>bnd (Ac k env) fun k=>cutTo C.Aa o k
 | .cutFrom e k,env=>bnd (Ac e env) fun o=>bnd (Ac k env) fun k=>cutFrom o k
 | .bin op a b,env=>bnd (Ac a env) fun x=>bnd (Ac b env) fun y=>Ok op x y
 | .cmp op a b,env=>bnd (Ac a env) fun x=>bnd (Ac b env) fun y=>bnd (Tt op x y) fun t=>ret (.bool t)
 | .isNone neg e,env=>bnd (Ac e env) fun x=>ret (.bool (xor neg (decide (x=.none))))
 | .inW neg e ws,env=>bnd (Ac e env) fun x=>vW x Mine.bad fun i=>Mine.ret (.bool (xor neg (ws.contains i)))
 | .and2 a b,env=>bnd (Ac a env) fun x=>bnd (AG x) fun t=>if t then Ac b env else Mine.ret x
 | .or2 a b,env=>bnd (Ac a env) fun x=>bnd (AG x) fun t=>if t then Mine.ret x else Ac b env
 | .not a,env=>bnd (Ac a env) fun x=>bnd (AG x) fun t=>Mine.ret (.bool !t)
 | .ite c a b,env=>bnd (Ac c env) fun x=>bnd (AG x) fun t=>if t then Ac a env else Ac b env
 | .lst es,env=>bnd (Et es env) fun vs=>if vs.length<=BR then alloc (.list vs)else Mine.bad
 | .tup es,env=>bnd (Et es env) fun vs=>if vs.length<=BR then alloc (.tup vs)else Mine.bad
 | .dct0,_=>alloc (.dictW [])
 | .dct0I,_=>alloc (.dictI [])
 | .dct1 k e,env=>bnd (alloc (.dictW [])) fun d=>bnd (Ac e env) fun v=>bnd (stays d (.dictW [])) fun J=>bnd (D0 d (.dictW [(k,v)])) fun J=>Mine.ret d
 | .call f es,env=>bnd (Et es env) fun vs=>C.call f vs
 | .mk c es,env=>bnd (Et es env) fun vs=>bnd (alloc (.inst c [])) fun o=>bnd (still (C.call (C.initOf c) (o::vs))) fun r=>
   if r=.none then Mine.ret o else Mine.bad
 | .len e,env=>bnd (Ac e env) TN
 | .listOf e,env=>bnd (Ac e env) Pj
 | .dictOf e,env=>bnd (Ac e env) Oz
 | .strOf e,env=>bnd (Ac e env) UH
 | .max2 a b,env=>bnd (Ac a env) fun x=>bnd (Ac b env) fun y=>X3 x y
 | .isV e,env=>bnd (Ac e env) Jb
 | .isT e t,env=>bnd (Ac e env) fun x=>Os x t
 | .append o e,env=>bnd (Ac o env) fun x=>bnd (Qn x) fun J=>bnd (Ac e env) fun y=>Ib x y
 | .extend o e,env=>bnd (Ac o env) fun x=>bnd (Qn x) fun J=>bnd (Ac e env) fun y=>CI x y
 | .pop o,env=>bnd (Ac o env) Ul
 | .reverse o,env=>bnd (Ac o env) Gv
 | .index o e,env=>bnd (Ac o env) fun x=>bnd (Xw x) fun t=>bnd (Ac e env) fun y=>NO t x y
 | .get1 o k,env=>bnd (Ac o env) fun x=>bnd (VC x) fun J=>bnd (Ac k env) fun y=>PH x y .none
 | .get2 o k d,env=>bnd (Ac o env) fun x=>bnd (VC x) fun J=>bnd (Ac k env) fun y=>bnd (Ac d env) fun z=>PH x y z
 | .starts o k,env=>bnd (Ac o env) fun x=>bnd (XT x) fun J=>bnd (Ac k env) fun y=>Kn C.bg x y
 | .mcall o f,env=>bnd (Ac o env) fun x=>bnd (Jb x) fun J=>C.call f [x]
 | .comp elt it,env=>bnd (Ac it env) fun l=>bnd (B6 l) fun c=>bnd (HJ l) fun xs=>
   bnd (still (Bx (fun x=>bnd (Ac elt (env++[some x])) fun y=>Mine.ret (some y)) (stays l c) xs)) fun ys=>if ys.length<=BR then alloc (.list ys)else Mine.bad
 | .compR elt n,env=>bnd (Ac n env) fun k=>vI k Mine.bad fun n=>if 0<=n/\n<=BR then bnd (still (Bx (fun x=>bnd (Ac elt (env++[some x])) fun y=>Mine.ret (some y)) (Mine.ret ()) (BU 0 n))) fun ys=>if ys.length<=BR then alloc (.list ys)else Mine.bad else Mine.bad
 | .compIf elt cond n,env=>bnd (Ac n env) fun k=>vI k Mine.bad fun n=>(if 0<=n/\n<=BR then bnd (still (Bx (fun x=>bnd (Ac cond (env++[some x])) fun c=>bnd (AG c) fun t=>if t then bnd (Ac elt (env++[some x])) fun y=>Mine.ret (some y)else Mine.ret Option.none) (Mine.ret ()) (BU 0 n))) fun ys=>if ys.length<=BR then alloc (.list ys)else Mine.bad else Mine.bad)
 | .dcomp v it,env=>bnd (Ac it env) fun l=>bnd (getD l) fun kvs=>bnd (D0 l (.dictP kvs)) fun J=>
   bnd (alloc (.dictW [])) fun d=>
   bnd (still (Bx (fun x=>bnd (Ac v (env++[some x])) fun y=>bnd (Dk d x y) fun J=>Mine.ret Option.none) (stays l (.dictP kvs)) (kvs.map fun p=> .w p.1))) fun J=>
   bnd (D0 l (.dictW kvs)) fun J=>Mine.ret d
 | .kept e,env=>fun H=>if H[0]? =some .tab then JV (Ac e env) H else .bad
 | .bad,_=>Mine.bad
noncomputable def Et:List (ME F)->Env->M (List V)
 | [],_=>ret []
 | e::r,env=>bnd (Ac e env) fun v=>bnd (Et r env) fun vs=>ret (v::vs)
end
noncomputable def En:List Nat->List V->Env->Option Env
 | [],vs,env=> @List.casesOn _ (fun J=>Option Env) vs (some env) fun J J=>Option.none
 | i::is,vs,env=> @List.casesOn _ (fun J=>Option Env) vs Option.none fun v vs=>En is vs (env.set i (some v))
noncomputable def ER(f:V->Env->M (Env×Option V))(post:M Unit):List V->Env->M (Env×Option V)
 | [],env=>ret (env,Option.none)
 | x::r,env=>bnd (f x env) fun p=>(match p.2 with
  | some v=>ret (p.1,some v)
  | Option.none=>bnd post fun J=>ER f post r p.1)
mutual
noncomputable def E6:MS F->Env->M (Env×Option V)
 | .asg i e,env=>bnd (Ac C e env) fun v=>ret (env.set i (some v),Option.none)
 | .asgT is e,env=>bnd (Ac C e env) fun v=>bnd (B6 v) fun c=>cT c Mine.bad fun xs=>bnd (Co (En is xs env)) fun Ai=>ret (Ai,Option.none)
 | .setA o a e,env=>bnd (Ac C e env) fun v=>bnd (Ac C o env) fun x=>bnd (IB x a v) fun J=>ret (env,Option.none)
 | .setI o k e,env=>bnd (Ac C e env) fun v=>bnd (Ac C o env) fun x=>bnd (Ac C k env) fun i=>bnd (Dk x i v) fun J=>ret (env,Option.none)
 | .augL i e,env=>bnd (Co (env[i]?).join) fun o=>bnd (Ac C e env) fun v=>bnd (CI o v) fun J=>ret (env,Option.none)
 | .ex e,env=>bnd (Ac C e env) fun J=>ret (env,Option.none)
 | .ret e,env=>bnd (Ac C e env) fun v=>ret (env,some v)
 | .ret0,env=>ret (env,some .none)
 | .ifs c t e,env=>bnd (Ac C c env) fun x=>bnd (AG x) fun b=>if b then Ak t env else Ak e env
 | .forN i n b,env=>bnd (Ac C n env) fun k=>vI k Mine.bad fun n=>if 0<=n/\n<=BR then ER (fun x env=>Ak b (env.set i (some x))) (ret ()) (BU 0 n) env else Mine.bad
 | .forR i lo hi b,env=>bnd (Ac C lo env) fun a=>bnd (Ac C hi env) fun z=>Ha a z fun a z=>if 0<=a/\a<=BR/\0<=z/\z<=BR then still<|ER (fun x env=>Ak b (env.set i (some x))) (ret ()) (BU a z) env else Mine.bad
 | .forE i it b,env=>bnd (Ac C it env) fun l=>bnd (B6 l) fun c=>bnd (HJ l) fun xs=>still (ER (fun x env=>Ak b (env.set i (some x))) (stays l c) xs env)
 | .forD i it b,env=>bnd (Ac C it env) fun l=>bnd (getD l) fun kvs=>bnd (D0 l (.dictP kvs)) fun J=>
   bnd (still (ER (fun x env=>Ak b (env.set i (some x))) (stays l (.dictP kvs)) (kvs.map fun p=> .w p.1) env)) fun r=>
   (match r.2 with
    | some _=>Mine.bad
    | Option.none=>bnd (D0 l (.dictW kvs)) fun J=>ret r)
 | .raise m,_=>XF m
 | .bad,_=>Mine.bad
noncomputable def Ak:List (MS F)->Env->M (Env×Option V)
 | [],env=>ret (env,Option.none)
 | s::r,env=>bnd (E6 s env) fun p=>(match p.2 with
  | some v=>ret (p.1,some v)
  | Option.none=>Ak r p.1)
end
end
structure AB(F:Type) where
 params:Nat
 dflt:List V
 vars:Nat
 body:List (MS F)
noncomputable def D8{F:Type}(P:F->AB F)(Aa:List Int)(bg:Fi)(initOf:Dz->F):Nat->F->List V->M V
 | 0,_,_=>bad
 | d+1,f,args=>
  let fd:=P f
  let vs:=args++fd.dflt.drop (args.length+fd.dflt.length - fd.params)
  if vs.length=fd.params/\args.length+fd.dflt.length ≥ fd.params then
   bnd (Ak { Aa:=Aa,bg:=bg,initOf:=initOf,call:=D8 P Aa bg initOf d} fd.body (vs.map some++List.replicate (fd.vars - fd.params) Option.none)) fun p=>
    ret (p.2.getD .none)
  else bad
mutual
inductive Fn where
 | Ck | An | AU | DJ | Bn | CK | Br | Cm | Il | BL | B5 | Cp | CL | AO | C6 | B0 | B4 | DU | CX | Bb | Cs | Ci | CD | Bl | A6 | Bz | Cr | CN | Bo | Bt | Ah | Cz | AN | AM | BM | A9 | Bd | C5 | AR | DH | BD | B3 | BA | AY | AQ | AC | A5 | Ax | Bg | Dv | Ao | AE | BO | AX | CP | Bp | BX | A7 | Bq | Be | Cn | AV | AZ
inductive iB where | z
end
noncomputable def Fn.ctorIdx(x:Fn):Nat:= @Fn.casesOn (fun J=>Nat) x 0 1 2 3 4 5 6 7 8 9 10 11 12 13 14 15 16 17 18 19 20 21 22 23 24 25 26 27 28 29 30 31 32 33 34 35 36 37 38 39 40 41 42 43 44 45 46 47 48 49 50 51 52 53 54 55 56 57 58 59 60 61 62
open Fn
noncomputable def RX:List String:=["kind","items","attrs","shared","loose","names","NULL","list","integer","character","NA","refused","a","b","ab","abc","","z","w","expression","pairlist","language","environment","logical","double","dim","attempt to select less than one element","symbol","subscript out of bounds","missing","$ operator is invalid for atomic vectors","dimnames","S4","replacement has length zero","more elements supplied than there are to replace","name","no such index at level 1","Coercing LHS to a list"]
noncomputable def KW:List (Nat×Nat):=[(12,12),(12,16),(13,13),(13,16),(14,12),(14,14),(14,16),(15,12),(15,14),(15,15),(15,16),(16,16),(17,16),(17,17)]
noncomputable def GD:AB Fn:=⟨1,[],1,[.setA (.O 0) 0 (.cst (.w 6)),.setA (.O 0) 2 (.cst .none)]⟩
noncomputable def Di:AB Fn:=⟨4,[.none],4,[.setA (.O 0) 0 (.O 1),.setA (.O 0) 1 (.O 2),.setA (.O 0) 2 (.O 3),.setA (.O 0) 3 (.cst (.bool false)),.setA (.O 0) 4 (.cst (.bool false))]⟩
noncomputable def IQ:AB Fn:=⟨1,[],2,[.asg 1 (.cst .none),.ifs (.isNone true (.attr (.O 0) 2)) [.asg 1 (.dictOf (.attr (.O 0) 2))] [],
   .ret (.mk .vector [.attr (.O 0) 0,.listOf (.attr (.O 0) 1),.O 1])]⟩
noncomputable def Vz:AB Fn:=⟨1,[],1,[.ifs (.cmp .gt (.O 0) (.gmax)) [.bad] [],
   .ret (.O 0)]⟩
noncomputable def Lq:AB Fn:=⟨1,[],1,[.ret (.mk .vector [.cst (.w 9),.listOf (.O 0)])]⟩
noncomputable def PP:AB Fn:=⟨1,[],2,[.asg 1 (.attr (.O 0) 0),.ifs (.cmp .eq (.O 1) (.cst (.w 6))) [.ret (.cst (.int 0))] [],
   .ifs (.or2 (.isV (.O 0)) (.cmp .eq (.O 1) (.cst (.w 21)))) [.ret (.len (.attr (.O 0) 1))] [],
   .bad]⟩
noncomputable def Kk:AB Fn:=⟨1,[],1,[.ret (.isV (.O 0))]⟩
noncomputable def KM:AB Fn:=⟨1,[],1,[.ret (.inW false (.attr (.O 0) 0) [23,8,24,9])]⟩
noncomputable def Xx:AB Fn:=⟨1,[],1,[.ifs (.attr (.O 0) 4) [.bad] [],
   .ret (.mcall (.O 0) .AU)]⟩
noncomputable def Rr:AB Fn:=⟨1,[],1,[.ifs (.isV (.O 0)) [.setA (.O 0) 3 (.cst (.bool true))] [],
   .ret (.O 0)]⟩
noncomputable def MT:AB Fn:=⟨2,[],2,[.ifs (.isNone false (.attr (.O 0) 2)) [.ret (.cst .none)] [],
   .ret (.get1 (.attr (.O 0) 2) (.O 1))]⟩
noncomputable def Lf:AB Fn:=⟨2,[],2,[.ifs (.and2 (.isNone true (.attr (.O 0) 2)) (.cmp .isin (.O 1) (.attr (.O 0) 2))) [.bad] []]⟩
noncomputable def LQ:AB Fn:=⟨3,[],3,[.ifs (.isNone false (.attr (.O 0) 2)) [.setA (.O 0) 2 (.dct0)] [],
   .setI (.attr (.O 0) 2) (.O 1) (.call .BL [.O 2])]⟩
noncomputable def LR:AB Fn:=⟨1,[],5,[.ifs (.cmp .eq (.attr (.O 0) 0) (.cst (.w 21))) [.bad] [],
   .ifs (.cmp .eq (.attr (.O 0) 0) (.cst (.w 22))) [.bad] [],
   .asg 2 (.call .C6 [.O 0]),.ifs (.and2 (.isNone true (.O 2)) (.cmp .eq (.len (.O 2)) (.cst (.int 1)))) [.bad] [],
   .asg 4 (.call .B5 [.O 0,.cst (.w 5)]),.ifs (.isNone false (.O 4)) [.ret (.cst .none)] [],
   .ret (.listOf (.attr (.O 4) 1))]⟩
noncomputable def P4:AB Fn:=⟨1,[],2,[.asg 1 (.call .B5 [.O 0,.cst (.w 25)]),.ifs (.isNone false (.O 1)) [.ret (.cst .none)] [],
   .bad]⟩
noncomputable def JD:AB Fn:=⟨1,[],2,[.asg 1 (.tup [.cst (.w 6),.cst (.w 23),.cst (.w 8),.cst (.w 24),.cst (.w 9),.cst (.w 7),.cst (.w 19)]),.ifs (.cmp .isin (.O 0) (.O 1)) [.ret (.index (.O 1) (.O 0))] [],
   .bad]⟩
noncomputable def Iw:AB Fn:=⟨1,[],4,[.asg 1 (.tup [.cst (.w 6),.cst (.w 23),.cst (.w 8),.cst (.w 24),.cst (.w 9),.cst (.w 7),.cst (.w 19)]),.asg 2 (.cst (.int 0)),.forE 3 (.O 0) [.asg 2 (.max2 (.O 2) (.call .B0 [.O 3]))],
   .ret (.idx (.O 1) (.O 2))]⟩
noncomputable def Nb:AB Fn:=⟨2,[],2,[.ifs (.or2 (.isNone false (.O 1)) (.cmp .eq (.O 0) (.cst (.w 9)))) [.bad] [],
   .ifs (.cmp .eq (.O 0) (.cst (.w 23))) [.bad] [],
   .ifs (.cmp .eq (.O 0) (.cst (.w 8))) [.ret (.strOf (.O 1))] [],
   .bad]⟩
noncomputable def NL:AB Fn:=⟨4,[],4,[.ifs (.cmp .eq (.O 0) (.O 2)) [.bad] [],
   .ifs (.or2 (.cmp .eq (.O 2) (.cst (.w 7))) (.or2 (.cmp .eq (.O 2) (.cst (.w 19))) (.cmp .eq (.O 2) (.cst (.w 20))))) [.ret (.ite (.call .Bb [.O 0]) (.call .BL [.mk .vector [.O 0,.lst [.O 1]]]) (.O 1))] [],
   .ifs (.not (.call .Bb [.O 0])) [.bad] [],
   .ifs (.cmp .eq (.O 2) (.cst (.w 23))) [.bad] [],
   .ifs (.cmp .eq (.O 2) (.cst (.w 8))) [.bad] [],
   .ifs (.cmp .eq (.O 2) (.cst (.w 24))) [.bad] [],
   .ret (.call .DU [.O 0,.O 1])]⟩
noncomputable def GK:AB Fn:=⟨1,[],1,[.ret (.inW false (.O 0) [23,8,24,9])]⟩
noncomputable def JE:AB Fn:=⟨2,[],2,[.ifs (.isNone true (.O 1)) [.setA (.O 0) 2 (.dct1 5 (.call .BL [.call .Bn [.O 1]]))] [],
   .ret (.O 0)]⟩
noncomputable def Oh:AB Fn:=⟨3,[],4,[.ifs (.not (.isV (.O 0))) [.bad] [],
   .asg 3 (.attr (.O 0) 1),.ifs (.cmp .ne (.attr (.O 0) 0) (.O 1)) [.asg 3 (.comp (.call .CX [.attr (.O 0) 0,.O 4,.O 1,.O 2]) (.attr (.O 0) 1))] [],
   .ret (.call .Cs [.mk .vector [.O 1,.listOf (.O 3)],
   .call .AO [.O 0]])]⟩
noncomputable def NQ:AB Fn:=⟨1,[],1,[.ret (.call .Ci [.O 0,.cst (.w 7),.lst []])]⟩
noncomputable def FK:AB Fn:=⟨1,[],3,[.ifs (.cmp .eq (.attr (.O 0) 0) (.cst (.w 8))) [.ret (.attr (.O 0) 1)] [],
   .bad]⟩
noncomputable def HK:AB Fn:=⟨1,[],4,[.asg 1 (.dct0),.ifs (.isNone true (.O 0)) [.forN 2 (.len (.O 0)) [.asg 3 (.idx (.O 0) (.O 2)),.ifs (.and2 (.isNone true (.O 3)) (.and2 (.cmp .ne (.O 3) (.cst (.w 16))) (.cmp .notin (.O 3) (.O 1)))) [.setI (.O 1) (.O 3) (.O 2)] []]] [],
   .ret (.O 1)]⟩
noncomputable def Hs:AB Fn:=⟨2,[],5,[.asg 2 (.call .A6 [.O 1]),.ifs (.cmp .isin (.O 0) (.O 2)) [.ret (.idx (.O 2) (.O 0))] [],
   .asg 3 (.usub 1),.ifs (.or2 (.isNone false (.O 1)) (.cmp .eq (.O 0) (.cst (.w 16)))) [.ret (.usub 1)] [],
   .forN 4 (.len (.O 1)) [.ifs (.and2 (.isNone true (.idx (.O 1) (.O 4))) (.starts (.idx (.O 1) (.O 4)) (.O 0))) [.ifs (.cmp .ge (.O 3) (.cst (.int 0))) [.ret (.usub 1)] [],
   .asg 3 (.O 4)] []],
   .ret (.O 3)]⟩
noncomputable def MB:AB Fn:=⟨3,[],3,[.ifs (.isNone false (.O 0)) [.bad] [],
   .ifs (.not (.O 2)) [.ret (.call .Bz [.O 0,.O 1])] [],
   .ret (.get2 (.call .A6 [.O 1]) (.O 0) (.usub 1))]⟩
noncomputable def KN:AB Fn:=⟨2,[],2,[.ifs (.isNone false (.O 0)) [.ret (.cst .none)] [],
   .ifs (.cmp .gt (.O 0) (.cst (.int 0))) [.ret (.bin .sub (.O 0) (.cst (.int 1)))] [],
   .ifs (.cmp .eq (.O 0) (.cst (.int 0))) [.raise 26] [],
   .bad]⟩
noncomputable def Lj:AB Fn:=⟨4,[],5,[.asg 4 (.attr (.O 0) 0),.ifs (.cmp .eq (.O 4) (.cst (.w 27))) [.bad] [],
   .ifs (.inW true (.O 4) [23,8,24,9]) [.bad] [],
   .ifs (.cmp .eq (.len (.attr (.O 0) 1)) (.cst (.int 0))) [.bad] [],
   .ifs (.cmp .gt (.len (.attr (.O 0) 1)) (.cst (.int 1))) [.bad] [],
   .ifs (.cmp .eq (.O 4) (.cst (.w 9))) [.ret (.call .Cr [.idx (.attr (.O 0) 1) (.cst (.int 0)),.O 2,.O 3])] [],
   .ifs (.cmp .eq (.O 4) (.cst (.w 23))) [.bad] [],
   .ret (.call .CN [.idx (.call .Bl [.O 0]) (.cst (.int 0)),.O 1])]⟩
noncomputable def HQ:AB Fn:=⟨1,[],1,[.ifs (.inW false (.O 0) [7,19,20]) [.ret (.mk .null [])] [],
   .ret (.cst .none)]⟩
noncomputable def HN:AB Fn:=⟨1,[],1,[.ret (.inW false (.O 0) [7,19,20])]⟩
noncomputable def Me:AB Fn:=⟨2,[],2,[.ifs (.call .Ah [.attr (.O 0) 0]) [.ret (.idx (.attr (.O 0) 1) (.O 1))] [],
   .ret (.mk .vector [.attr (.O 0) 0,.lst [.idx (.attr (.O 0) 1) (.O 1)]])]⟩
noncomputable def GT:AB Fn:=⟨3,[],5,[.asg 3 (.len (.attr (.O 0) 1)),.asg 4 (.call .Bo [.O 1,.O 3,.call .AO [.O 0],
   .O 2]),.ifs (.isNone false (.O 4)) [.ifs (.call .Ah [.attr (.O 0) 0]) [.ret (.mk .null [])] [],
   .ret (.mk .vector [.attr (.O 0) 0,.lst [.cst .none]])] [],
   .ifs (.and2 (.cmp .lt (.O 4) (.cst (.int 0))) (.call .Ah [.attr (.O 0) 0])) [.ret (.mk .null [])] [],
   .ifs (.or2 (.cmp .lt (.O 4) (.cst (.int 0))) (.cmp .ge (.O 4) (.O 3))) [.raise 28] [],
   .ret (.call .Cz [.O 0,.O 4])]⟩
noncomputable def HP:AB Fn:=⟨3,[],5,[.ifs (.cmp .eq (.attr (.O 0) 0) (.cst (.w 6))) [.ret (.mk .null [])] [],
   .ifs (.cmp .eq (.attr (.O 0) 0) (.cst (.w 22))) [.bad] [],
   .ifs (.cmp .eq (.attr (.O 0) 0) (.cst (.w 21))) [.bad] [],
   .ifs (.not (.call .Br [.O 0])) [.bad] [],
   .ret (.call .AN [.O 0,.O 1,.O 2])]⟩
noncomputable def Jd:AB Fn:=⟨1,[],1,[.ret (.comp (.mk .vector [.attr (.O 0) 0,.lst [.O 1]]) (.attr (.O 0) 1))]⟩
noncomputable def Hc:AB Fn:=⟨1,[],1,[.ret (.and2 (.call .Br [.O 0]) (.and2 (.not (.call .Ah [.attr (.O 0) 0])) (.cmp .gt (.len (.attr (.O 0) 1)) (.cst (.int 1)))))]⟩
noncomputable def NU:AB Fn:=⟨3,[],6,[.ifs (.or2 (.cmp .eq (.len (.O 1)) (.cst (.int 0))) (.cmp .eq (.attr (.idx (.O 1) (.cst (.int 0))) 0) (.cst (.w 29)))) [.bad] [],
   .ifs (.cmp .gt (.len (.O 1)) (.cst (.int 1))) [.bad] [],
   .asg 3 (.idx (.O 1) (.cst (.int 0))),.ifs (.or2 (.not (.call .A9 [.O 3])) (.not (.or2 (.call .Ah [.attr (.O 0) 0]) (.cmp .eq (.attr (.O 0) 0) (.cst (.w 21)))))) [.ret (.call .AM [.O 0,.O 3,.O 2])] [],
   .asg 4 (.call .BM [.O 3]),.forN 5 (.len (.O 4)) [.ifs (.cmp .eq (.attr (.O 0) 0) (.cst (.w 6))) [.raise 28] [],
   .asg 0 (.call .AM [.O 0,.idx (.O 4) (.O 5),.O 2])],
   .ret (.O 0)]⟩
noncomputable def Qe:AB Fn:=⟨2,[],4,[.ifs (.cmp .eq (.attr (.O 0) 0) (.cst (.w 6))) [.ret (.mk .null [])] [],
   .ifs (.cmp .eq (.attr (.O 0) 0) (.cst (.w 22))) [.bad] [],
   .ifs (.cmp .eq (.attr (.O 0) 0) (.cst (.w 21))) [.bad] [],
   .ifs (.not (.call .Br [.O 0])) [.bad] [],
   .ifs (.not (.call .Ah [.attr (.O 0) 0])) [.raise 30] [],
   .ret (.call .AN [.O 0,.call .Bn [.lst [.O 1]],
   .cst (.bool false)])]⟩
noncomputable def Gb:AB Fn:=⟨3,[],3,[.ifs (.or2 (.cmp .eq (.attr (.O 0) 0) (.O 1)) (.and2 (.call .Ah [.attr (.O 0) 0]) (.call .Ah [.O 1]))) [.ret (.attr (.O 0) 1)] [],
   .ifs (.call .Ah [.O 1]) [.ret (.attr (.call .CD [.O 0]) 1)] [],
   .ret (.attr (.call .Ci [.O 0,.O 1,.O 2]) 1)]⟩
noncomputable def Pu:AB Fn:=⟨3,[],4,[.ifs (.cmp .eq (.attr (.O 0) 0) (.O 1)) [.ret (.call .Il [.O 0])] [],
   .asg 3 (.cst .none),.ifs (.isNone true (.attr (.O 0) 2)) [.asg 3 (.dictOf (.attr (.O 0) 2))] [],
   .ret (.mk .vector [.O 1,.listOf (.call .AR [.O 0,.O 1,.O 2]),.O 3])]⟩
noncomputable def G2:AB Fn:=⟨4,[],7,[.asg 4 (.len (.attr (.O 0) 1)),.forR 5 (.O 4) (.call .DJ [.O 1]) [.ex (.append (.attr (.O 0) 1) (.call .Bt [.attr (.O 0) 0]))],
   .ex (.call .Cp [.O 0,.cst (.w 25)]),.ex (.call .Cp [.O 0,.cst (.w 31)]),.ifs (.and2 (.isNone false (.O 2)) (.isNone false (.O 3))) [.ret0] [],
   .asg 6 (.bin .mul (.lst [.cst (.w 16)]) (.O 4)),.ifs (.isNone true (.O 2)) [.asg 6 (.listOf (.O 2))] [],
   .ifs (.isNone true (.O 3)) [.ex (.extend (.O 6) (.O 3))] [],
   .ex (.extend (.O 6) (.bin .mul (.lst [.cst (.w 16)]) (.bin .sub (.O 1) (.len (.O 6))))),.ex (.call .CL [.O 0,.cst (.w 5),.call .Bn [.O 6]])]⟩
noncomputable def Jc:AB Fn:=⟨1,[],3,[.asg 1 (.cst (.int 0)),.forE 2 (.O 0) [.ifs (.and2 (.isNone true (.O 2)) (.cmp .ge (.O 2) (.O 1))) [.asg 1 (.bin .add (.O 2) (.cst (.int 1)))] []],
   .ret (.O 1)]⟩
noncomputable def Hw:AB Fn:=⟨2,[],12,[.asg 2 (.call .AO [.O 0]),.asg 3 (.call .DJ [.max2 (.len (.attr (.O 0) 1)) (.call .B3 [.O 1])]),.asg 4 .dct0I,.forE 5 (.O 1) [.ifs (.isNone true (.O 5)) [.setI (.O 4) (.O 5) (.cst (.bool true))] []],
   .asg 6 (.lst []),.asg 7 (.lst []),.forN 8 (.O 3) [.ifs (.cmp .notin (.O 8) (.O 4)) [.asg 9 (.cmp .lt (.O 8) (.len (.attr (.O 0) 1))),.ex (.append (.O 6) (.ite (.O 9) (.idx (.attr (.O 0) 1) (.O 8)) (.mk .null []))),.ifs (.isNone true (.O 2)) [.ex (.append (.O 7) (.ite (.O 9) (.idx (.O 2) (.O 8)) (.cst (.w 16))))] []] []],
   .asg 10 (.mk .vector [.attr (.O 0) 0,.O 6]),.ifs (.isNone true (.attr (.O 0) 2)) [.forD 11 (.attr (.O 0) 2) [.ifs (.inW true (.O 11) [5,25,31]) [.bad] []]] [],
   .ifs (.isNone true (.O 2)) [.ex (.call .CL [.O 10,.cst (.w 5),.call .Bn [.O 7]])] [],
   .ret (.O 10)]⟩
noncomputable def HS:AB Fn:=⟨2,[],2,[.ifs (.call .Ah [.attr (.O 0) 0]) [.ret (.attr (.O 0) 0)] [],
   .ifs (.call .Cm [.O 1]) [.ret (.call .B4 [.lst [.attr (.O 0) 0,.attr (.O 1) 0]])] [],
   .ifs (.or2 (.call .Ah [.attr (.O 1) 0]) (.inW false (.attr (.O 1) 0) [27,21,32])) [.ret (.cst (.w 7))] [],
   .bad]⟩
noncomputable def IS:AB Fn:=⟨5,[],9,[.asg 5 (.call .AO [.O 0]),.ifs (.not (.call .Ah [.attr (.O 0) 0])) [.ifs (.cmp .eq (.call .CK [.O 3]) (.cst (.int 0))) [.raise 33] [],
   .ifs (.cmp .gt (.call .CK [.O 3]) (.cst (.int 1))) [.raise 34] []] [],
   .asg 6 (.call .AY [.O 0,.O 3]),.asg 7 (.call .DH [.O 0,.O 6,.O 4]),.ifs (.cmp .ge (.O 1) (.len (.attr (.O 7) 1))) [.asg 8 (.cst .none),.ifs (.isNone true (.O 2)) [.asg 8 (.lst [.O 2])] [],
   .ex (.call .BD [.O 7,.bin .add (.O 1) (.cst (.int 1)),.O 5,.O 8])] [],
   .ifs (.call .Ah [.O 6]) [.setI (.attr (.O 7) 1) (.O 1) (.call .BL [.O 3])] [.setI (.attr (.O 7) 1) (.O 1) (.idx (.call .AR [.O 3,.O 6,.O 4]) (.cst (.int 0)))],
   .ret (.O 7)]⟩
noncomputable def IC:AB Fn:=⟨4,[],8,[.ifs (.cmp .eq (.attr (.O 0) 0) (.cst (.w 6))) [.ifs (.cmp .eq (.attr (.O 2) 0) (.cst (.w 6))) [.ret (.O 0)] [],
   .asg 4 (.cst (.w 7)),.ifs (.and2 (.call .Cm [.O 2]) (.cmp .eq (.len (.attr (.O 2) 1)) (.cst (.int 1)))) [.asg 4 (.attr (.O 2) 0)] [],
   .asg 0 (.mk .vector [.O 4,.lst []])] [],
   .asg 5 (.len (.attr (.O 0) 1)),.asg 6 (.call .Bo [.O 1,.O 5,.call .AO [.O 0],
   .cst (.bool true)]),.ifs (.isNone false (.O 6)) [.raise 28] [],
   .ifs (.and2 (.cmp .eq (.attr (.O 2) 0) (.cst (.w 6))) (.call .Ah [.attr (.O 0) 0])) [.ifs (.or2 (.cmp .lt (.O 6) (.cst (.int 0))) (.cmp .ge (.O 6) (.O 5))) [.ret (.O 0)] [],
   .ret (.call .BA [.O 0,.lst [.O 6]])] [],
   .asg 7 (.cst .none),.ifs (.cmp .lt (.O 6) (.cst (.int 0))) [.asg 6 (.O 5),.asg 7 (.ite (.cmp .eq (.attr (.O 1) 0) (.cst (.w 27))) (.attr (.O 1) 35) (.idx (.attr (.O 1) 1) (.cst (.int 0))))] [],
   .ret (.call .AQ [.O 0,.O 6,.O 7,.O 2,.O 3])]⟩
noncomputable def IE:AB Fn:=⟨4,[],5,[.ifs (.cmp .eq (.attr (.O 0) 0) (.cst (.w 21))) [.bad] [],
   .ifs (.and2 (.cmp .ne (.attr (.O 0) 0) (.cst (.w 6))) (.not (.call .Br [.O 0]))) [.bad] [],
   .ifs (.cmp .eq (.len (.O 1)) (.cst (.int 1))) [.ret (.call .AC [.O 0,.idx (.O 1) (.cst (.int 0)),.O 2,.O 3])] [],
   .asg 4 (.call .AM [.O 0,.idx (.O 1) (.cst (.int 0)),.cst (.bool true)]),.ifs (.cmp .eq (.attr (.O 4) 0) (.cst (.w 6))) [.raise 36] [],
   .ret (.call .AC [.O 0,.idx (.O 1) (.cst (.int 0)),.call .A5 [.O 4,.cutFrom (.O 1) (.cst (.int 1)),.O 2,.O 3],
   .O 3])]⟩
noncomputable def GX:AB Fn:=⟨4,[],6,[.ifs (.or2 (.cmp .eq (.len (.O 1)) (.cst (.int 0))) (.cmp .eq (.attr (.idx (.O 1) (.cst (.int 0))) 0) (.cst (.w 29)))) [.bad] [],
   .ifs (.cmp .gt (.len (.O 1)) (.cst (.int 1))) [.bad] [],
   .asg 5 (.idx (.O 1) (.cst (.int 0))),.ifs (.and2 (.call .A9 [.O 5]) (.or2 (.call .Ah [.attr (.O 0) 0]) (.cmp .eq (.attr (.O 0) 0) (.cst (.w 21))))) [.ret (.call .A5 [.O 0,.call .BM [.O 5],
   .O 2,.O 3])] [],
   .ret (.call .A5 [.O 0,.lst [.O 5],
   .O 2,.O 3])]⟩
noncomputable def Hq:AB Fn:=⟨4,[],4,[.ifs (.cmp .eq (.attr (.O 0) 0) (.cst (.w 21))) [.bad] [],
   .ifs (.cmp .eq (.attr (.O 0) 0) (.cst (.w 6))) [.asg 0 (.mk .vector [.cst (.w 7),.lst []])] [],
   .ifs (.not (.call .Br [.O 0])) [.bad] [],
   .ifs (.not (.call .Ah [.attr (.O 0) 0])) [.ifs (.cmp .gt (.len (.attr (.O 0) 1)) (.cst (.int 0))) [.ex (.append (.O 3) (.cst (.w 37)))] [],
   .asg 0 (.call .DH [.O 0,.cst (.w 7),.O 3])] [],
   .ret (.call .AC [.O 0,.call .Bn [.lst [.O 1]],
   .O 2,.O 3])]⟩
noncomputable def NN:AB Fn:=⟨1,[],5,[.asg 1 (.lst []),.forE 2 (.cutTo (.O 0) (.cst (.int 40))) [.asg 3 (.ite (.cmp .ge (.O 2) (.cst (.int 0))) (.O 2) (.bin .sub (.cst (.int 7)) (.O 2))),.ex (.append (.O 1) (.bin .mod (.O 3) (.cst (.int 1024)))),.asg 3 (.bin .fdiv (.O 3) (.cst (.int 1024))),.forN 4 (.cst (.int 30)) [.ifs (.cmp .gt (.O 3) (.cst (.int 0))) [.ex (.append (.O 1) (.bin .mod (.O 3) (.cst (.int 1024)))),.asg 3 (.bin .fdiv (.O 3) (.cst (.int 1024)))] []]],
   .asg 1 (.cutTo (.O 1) (.cst (.int 160))),.ex (.reverse (.O 1)),.ret (.O 1)]⟩
noncomputable def LD:AB Fn:=⟨1,[],1,[.ret (.ite (.cmp .ne (.O 0) (.lst [])) (.pop (.O 0)) (.cst (.int 0)))]⟩
noncomputable def MN:AB Fn:=⟨1,[],2,[.ifs (.isT (.O 0) .str) [.bad] [],
   .ifs (.cmp .eq (.attr (.O 0) 0) (.cst (.w 6))) [.ret (.cst (.w 6))] [],
   .asg 1 (.dct0),.ifs (.isNone true (.attr (.O 0) 2)) [.asg 1 (.dcomp (.call .AE [.idx (.attr (.O 0) 2) (.O 2)]) (.attr (.O 0) 2))] [],
   .ifs (.inW false (.attr (.O 0) 0) [7,19,20]) [.ret (.tup [.attr (.O 0) 0,.comp (.call .AE [.O 2]) (.attr (.O 0) 1),.O 1])] [],
   .ret (.tup [.attr (.O 0) 0,.listOf (.attr (.O 0) 1),.O 1])]⟩
noncomputable def Kl:AB Fn:=⟨2,[],2,[.ret (.compR (.idx (.lst [.cst (.w 12),.cst (.w 13),.cst (.w 14),.cst (.w 16),.cst .none,.cst (.w 15)]) (.bin .mod (.call .Ao [.O 0]) (.cst (.int 6)))) (.O 1))]⟩
noncomputable def LH:AB Fn:=⟨2,[],6,[.asg 2 (.bin .mod (.call .Ao [.O 0]) (.ite (.cmp .gt (.O 1) (.cst (.int 0))) (.cst (.int 5)) (.cst (.int 3)))),.ifs (.cmp .eq (.O 2) (.cst (.int 2))) [.ret (.mk .null [])] [],
   .ifs (.cmp .gt (.O 2) (.cst (.int 2))) [.asg 3 (.compR (.call .AX [.O 0,.bin .sub (.O 1) (.cst (.int 1))]) (.bin .mod (.call .Ao [.O 0]) (.cst (.int 4)))),.asg 4 (.mk .vector [.cst (.w 7),.O 3])] [.asg 5 (.bin .add (.cst (.int 1)) (.bin .mod (.call .Ao [.O 0]) (.cst (.int 3)))),.asg 4 (.mk .vector [.idx (.lst [.cst (.w 8),.cst (.w 9)]) (.O 2),.compR (.idx (.lst [.bin .mod (.call .Ao [.O 0]) (.cst (.int 50)),.cst (.w 18)]) (.O 2)) (.O 5)])],
   .ifs (.cmp .eq (.bin .mod (.call .Ao [.O 0]) (.cst (.int 2))) (.cst (.int 1))) [.setA (.O 4) 2 (.dct1 5 (.mk .vector [.cst (.w 9),.call .BO [.O 0,.len (.attr (.O 4) 1)]]))] [],
   .ret (.O 4)]⟩
noncomputable def MX:AB Fn:=⟨1,[],4,[.asg 1 (.bin .mod (.call .Ao [.O 0]) (.cst (.int 6))),.ifs (.cmp .eq (.O 1) (.cst (.int 4))) [.ret (.mk .vector [.cst (.w 8),.compR (.bin .mod (.call .Ao [.O 0]) (.cst (.int 9))) (.bin .mod (.call .Ao [.O 0]) (.cst (.int 4)))])] [],
   .ifs (.cmp .eq (.O 1) (.cst (.int 5))) [.ret (.mk .null [])] [],
   .asg 2 (.bin .mod (.call .Ao [.O 0]) (.cst (.int 4))),.asg 3 (.mk .vector [.cst (.w 7),.compR (.call .AX [.O 0,.cst (.int 1)]) (.O 2)]),.ifs (.cmp .eq (.bin .mod (.call .Ao [.O 0]) (.cst (.int 2))) (.cst (.int 1))) [.setA (.O 3) 2 (.dct1 5 (.mk .vector [.cst (.w 9),.call .BO [.O 0,.O 2]]))] [],
   .ret (.O 3)]⟩
noncomputable def HR:AB Fn:=⟨1,[],1,[.ret (.ite (.and2 (.cmp .ne (.O 0) (.cst (.w 6))) (.cmp .isin (.cst (.w 5)) (.idx (.O 0) (.cst (.int 2))))) (.listOf (.idx (.idx (.idx (.O 0) (.cst (.int 2))) (.cst (.w 5))) (.cst (.int 1)))) (.cst .none))]⟩
noncomputable def L5:AB Fn:=⟨3,[],5,[.ifs (.isT (.O 1) .int) [.ret (.ite (.cmp .eq (.O 1) (.cst (.int 0))) (.cst (.w 26)) (.bin .sub (.O 1) (.cst (.int 1))))] [],
   .asg 3 (.call .Bp [.O 0]),.ifs (.or2 (.cmp .eq (.O 1) (.cst (.w 16))) (.isNone false (.O 3))) [.ret (.usub 1)] [],
   .ifs (.cmp .isin (.O 1) (.O 3)) [.ret (.index (.O 3) (.O 1))] [],
   .asg 4 (.compIf (.O 5) (.and2 (.isNone true (.idx (.O 3) (.O 5))) (.starts (.idx (.O 3) (.O 5)) (.O 1))) (.len (.O 3))),.ret (.ite (.and2 (.not (.O 2)) (.cmp .eq (.len (.O 4)) (.cst (.int 1)))) (.idx (.O 4) (.cst (.int 0))) (.usub 1))]⟩
noncomputable def IJ:AB Fn:=⟨3,[],7,[.ifs (.cmp .eq (.O 0) (.cst (.w 6))) [.ret (.cst (.w 6))] [],
   .asgT [3,4,5] (.O 0),.ifs (.cmp .eq (.O 1) (.cst (.w 10))) [.ret (.ite (.cmp .eq (.O 3) (.cst (.w 7))) (.cst (.w 6)) (.tup [.O 3,.lst [.cst .none],
   .dct0]))] [],
   .asg 6 (.call .BX [.O 0,.O 1,.O 2]),.ifs (.isT (.O 6) .str) [.ret (.lst [.cst (.w 11),.O 6])] [],
   .ifs (.and2 (.cmp .lt (.O 6) (.cst (.int 0))) (.cmp .eq (.O 3) (.cst (.w 7)))) [.ret (.cst (.w 6))] [],
   .ifs (.or2 (.cmp .lt (.O 6) (.cst (.int 0))) (.cmp .ge (.O 6) (.len (.O 4)))) [.ret (.lst [.cst (.w 11),.cst (.w 28)])] [],
   .ret (.ite (.cmp .eq (.O 3) (.cst (.w 7))) (.idx (.O 4) (.O 6)) (.tup [.O 3,.lst [.idx (.O 4) (.O 6)],
   .dct0]))]⟩
noncomputable def HT:AB Fn:=⟨1,[],4,[.asgT [1,2,3] (.O 0),.ret (.tup [.cst (.w 7),.comp (.tup [.O 1,.lst [.O 4],
   .dct0]) (.O 2),.O 3])]⟩
noncomputable def Nl:AB Fn:=⟨3,[],13,[.ifs (.cmp .eq (.O 0) (.cst (.w 6))) [.ifs (.cmp .eq (.O 2) (.cst (.w 6))) [.ret (.cst (.w 6))] [],
   .asg 3 (.and2 (.cmp .ne (.idx (.O 2) (.cst (.int 0))) (.cst (.w 7))) (.cmp .eq (.len (.idx (.O 2) (.cst (.int 1)))) (.cst (.int 1)))),.asg 0 (.tup [.ite (.O 3) (.idx (.O 2) (.cst (.int 0))) (.cst (.w 7)),.lst [],
   .dct0])] [],
   .asgT [4,5,6] (.O 0),.asg 7 (.len (.O 5)),.asg 8 (.call .Bp [.O 0]),.ifs (.cmp .eq (.O 1) (.cst (.w 10))) [.ret (.lst [.cst (.w 11),.cst (.w 28)])] [],
   .asg 9 (.call .BX [.O 0,.O 1,.cst (.bool true)]),.ifs (.isT (.O 9) .str) [.ret (.lst [.cst (.w 11),.O 9])] [],
   .ifs (.and2 (.cmp .eq (.O 2) (.cst (.w 6))) (.cmp .eq (.O 4) (.cst (.w 7)))) [.ifs (.or2 (.cmp .lt (.O 9) (.cst (.int 0))) (.cmp .ge (.O 9) (.O 7))) [.ret (.O 0)] [],
   .asg 10 (.dct0),.ifs (.isNone true (.O 8)) [.setI (.O 10) (.cst (.w 5)) (.tup [.cst (.w 9),.bin .add (.cutTo (.O 8) (.O 9)) (.cutFrom (.O 8) (.bin .add (.O 9) (.cst (.int 1)))),.dct0])] [],
   .ret (.tup [.O 4,.bin .add (.cutTo (.O 5) (.O 9)) (.cutFrom (.O 5) (.bin .add (.O 9) (.cst (.int 1)))),.O 10])] [],
   .asg 11 (.ite (.cmp .lt (.O 9) (.cst (.int 0))) (.lst [.O 1]) (.lst [])),.asg 9 (.ite (.cmp .lt (.O 9) (.cst (.int 0))) (.O 7) (.O 9)),.ifs (.cmp .ne (.O 4) (.cst (.w 7))) [.ifs (.or2 (.cmp .eq (.O 2) (.cst (.w 6))) (.cmp .eq (.idx (.O 2) (.cst (.int 1))) (.lst []))) [.ret (.lst [.cst (.w 11),.cst (.w 33)])] [],
   .ifs (.cmp .gt (.len (.idx (.O 2) (.cst (.int 1)))) (.cst (.int 1))) [.ret (.lst [.cst (.w 11),.cst (.w 34)])] [],
   .ifs (.cmp .eq (.idx (.O 2) (.cst (.int 0))) (.cst (.w 7))) [.asgT [4,5,6] (.call .Bq [.O 0])] [.ifs (.and2 (.cmp .eq (.idx (.O 2) (.cst (.int 0))) (.cst (.w 9))) (.cmp .eq (.O 4) (.cst (.w 8)))) [.asgT [4,5] (.tup [.cst (.w 9),.comp (.strOf (.O 13)) (.O 5)])] []]] [],
   .asg 5 (.listOf (.O 5)),.asg 6 (.dictOf (.O 6)),.ifs (.cmp .ge (.O 9) (.O 7)) [.augL 5 (.bin .mul (.lst [.ite (.cmp .eq (.O 4) (.cst (.w 7))) (.cst (.w 6)) (.cst .none)]) (.bin .sub (.bin .add (.O 9) (.cst (.int 1))) (.O 7))),.ifs (.or2 (.isNone true (.O 8)) (.cmp .ne (.O 11) (.lst []))) [.asg 12 (.bin .add (.ite (.isNone false (.O 8)) (.bin .mul (.lst [.cst (.w 16)]) (.O 7)) (.O 8)) (.O 11)),.setI (.O 6) (.cst (.w 5)) (.tup [.cst (.w 9),.bin .add (.O 12) (.bin .mul (.lst [.cst (.w 16)]) (.bin .sub (.bin .add (.O 9) (.cst (.int 1))) (.len (.O 12)))),.dct0])] []] [],
   .ifs (.cmp .eq (.O 4) (.cst (.w 7))) [.setI (.O 5) (.O 9) (.O 2)] [.setI (.O 5) (.O 9) (.ite (.and2 (.cmp .eq (.O 4) (.cst (.w 9))) (.cmp .eq (.idx (.O 2) (.cst (.int 0))) (.cst (.w 8)))) (.strOf (.idx (.idx (.O 2) (.cst (.int 1))) (.cst (.int 0)))) (.idx (.idx (.O 2) (.cst (.int 1))) (.cst (.int 0))))],
   .ret (.tup [.O 4,.O 5,.O 6])]⟩
noncomputable def Kz:AB Fn:=⟨1,[],1,[.ifs (.cmp .eq (.O 0) (.cst (.w 10))) [.ret (.mk .vector [.cst (.w 8),.lst [.cst .none]])] [],
   .ret (.ite (.isT (.O 0) .int) (.mk .vector [.cst (.w 8),.lst [.O 0]]) (.mk .vector [.cst (.w 9),.lst [.O 0]]))]⟩
noncomputable def KJ:AB Fn:=⟨1,[],1,[.ret (.ite (.isT (.O 0) .str) (.lst [.cst (.w 11),.O 0]) (.call .AE [.O 0]))]⟩
noncomputable def XR:AB Fn:=⟨1,[],19,[.asg 1 (.call .Dv [.O 0]),.asg 2 (.call .CP [.O 1]),.asg 3 (.call .AX [.O 1,.cst (.int 1)]),.asg 4 (.call .AE [.O 2]),.asg 5 (.call .AE [.O 3]),.asg 6 (.ite (.cmp .eq (.O 4) (.cst (.w 6))) (.cst (.int 0)) (.len (.idx (.O 4) (.cst (.int 1))))),.forE 7 (.lst [.bin .mod (.call .Ao [.O 1]) (.bin .add (.O 6) (.cst (.int 3))),.idx (.lst [.cst (.w 12),.cst (.w 14),.cst (.w 13),.cst (.w 17),.cst (.w 16)]) (.bin .mod (.call .Ao [.O 1]) (.cst (.int 5))),.cst (.w 10)]) [.asg 8 (.call .Cn [.O 7]),.forE 9 (.lst [.cst (.bool true),.cst (.bool false)]) [.ifs (.cmp .ne (.call .AV [.kept (.call .Bd [.O 2,.lst [.O 8],
   .O 9])]) (.call .A7 [.O 4,.O 7,.O 9])) [.bad] []],
   .ifs (.cmp .ne (.call .AV [.kept (.call .Ax [.O 2,.lst [.O 8],
   .O 3,.lst []])]) (.call .Be [.O 4,.O 7,.O 5])) [.bad] [],
   .ifs (.or2 (.cmp .ne (.call .AE [.O 2]) (.O 4)) (.cmp .ne (.call .AE [.O 3]) (.O 5))) [.bad] []],
   .asg 10 (.idx (.lst [.cst (.w 12),.cst (.w 14),.cst (.w 13),.cst (.w 17)]) (.bin .mod (.call .Ao [.O 1]) (.cst (.int 4)))),.asg 11 (.kept (.call .C5 [.O 2,.O 10])),.ifs (.and2 (.cmp .ne (.O 4) (.cst (.w 6))) (.cmp .ne (.idx (.O 4) (.cst (.int 0))) (.cst (.w 7)))) [.ifs (.cmp .ne (.O 11) (.cst (.w 30))) [.bad] []] [.ifs (.cmp .ne (.call .AV [.O 11]) (.call .A7 [.O 4,.O 10,.cst (.bool false)])) [.bad] []],
   .asg 12 (.lst []),.asg 13 (.O 4),.ifs (.cmp .eq (.O 4) (.cst (.w 6))) [.asg 13 (.tup [.cst (.w 7),.lst [],
   .dct0])] [.ifs (.cmp .ne (.idx (.O 4) (.cst (.int 0))) (.cst (.w 7))) [.asg 13 (.call .Bq [.O 4])] []],
   .asg 14 (.ite (.and2 (.cmp .ne (.O 4) (.cst (.w 6))) (.and2 (.cmp .ne (.idx (.O 4) (.cst (.int 0))) (.cst (.w 7))) (.cmp .gt (.O 6) (.cst (.int 0))))) (.lst [.cst (.w 37)]) (.lst [])),.ifs (.or2 (.cmp .ne (.call .AV [.kept (.call .Bg [.O 2,.O 10,.O 3,.O 12])]) (.call .Be [.O 13,.O 10,.O 5])) (.cmp .ne (.O 12) (.O 14))) [.bad] [],
   .ifs (.and2 (.cmp .ne (.O 4) (.cst (.w 6))) (.and2 (.cmp .eq (.idx (.O 4) (.cst (.int 0))) (.cst (.w 7))) (.cmp .gt (.O 6) (.cst (.int 0))))) [.asg 15 (.bin .add (.cst (.int 1)) (.bin .mod (.call .Ao [.O 1]) (.O 6))),.asg 16 (.bin .add (.cst (.int 1)) (.bin .mod (.call .Ao [.O 1]) (.cst (.int 3)))),.asg 8 (.mk .vector [.cst (.w 8),.lst [.O 15,.O 16]]),.asg 17 (.idx (.idx (.O 4) (.cst (.int 1))) (.bin .sub (.O 15) (.cst (.int 1)))),.asg 14 (.ite (.cmp .eq (.O 17) (.cst (.w 6))) (.lst [.cst (.w 11),.cst (.w 28)]) (.call .A7 [.O 17,.O 16,.cst (.bool true)])),.ifs (.cmp .ne (.call .AV [.kept (.call .Bd [.O 2,.lst [.O 8],
   .cst (.bool true)])]) (.O 14)) [.bad] [],
   .asg 14 (.lst [.cst (.w 11),.cst (.w 36)]),.ifs (.cmp .ne (.O 17) (.cst (.w 6))) [.asg 18 (.call .Be [.O 17,.O 16,.O 5]),.asg 14 (.ite (.isT (.O 18) .list) (.O 18) (.call .Be [.O 4,.O 15,.O 18]))] [],
   .ifs (.cmp .ne (.call .AV [.kept (.call .Ax [.O 2,.lst [.O 8],
   .O 3,.lst []])]) (.O 14)) [.bad] []] [],
   .ret (.cmp .eq (.call .AE [.O 2]) (.O 4))]⟩
noncomputable def prog:Fn->AB Fn
 | Ck=>GD
 | An=>Di
 | AU=>IQ
 | DJ=>Vz
 | Bn=>Lq
 | CK=>PP
 | Br=>Kk
 | Cm=>KM
 | Il=>Xx
 | BL=>Rr
 | B5=>MT
 | Cp=>Lf
 | CL=>LQ
 | AO=>LR
 | C6=>P4
 | B0=>JD
 | B4=>Iw
 | DU=>Nb
 | CX=>NL
 | Bb=>GK
 | Cs=>JE
 | Ci=>Oh
 | CD=>NQ
 | Bl=>FK
 | A6=>HK
 | Bz=>Hs
 | Cr=>MB
 | CN=>KN
 | Bo=>Lj
 | Bt=>HQ
 | Ah=>HN
 | Cz=>Me
 | AN=>GT
 | AM=>HP
 | BM=>Jd
 | A9=>Hc
 | Bd=>NU
 | C5=>Qe
 | AR=>Gb
 | DH=>Pu
 | BD=>G2
 | B3=>Jc
 | BA=>Hw
 | AY=>HS
 | AQ=>IS
 | AC=>IC
 | A5=>IE
 | Ax=>GX
 | Bg=>Hq
 | Dv=>NN
 | Ao=>LD
 | AE=>MN
 | BO=>Kl
 | AX=>LH
 | CP=>MX
 | Bp=>HR
 | BX=>L5
 | A7=>IJ
 | Bq=>HT
 | Be=>Nl
 | Cn=>Kz
 | AV=>KJ
 | AZ=>XR
noncomputable def XB:Fn->String
 | Ck=>"Null.__init__"
 | An=>"Vector.__init__"
 | AU=>"Vector.copy"
 | DJ=>"room"
 | Bn=>"character"
 | CK=>"length"
 | Br=>"is_vector"
 | Cm=>"is_atomic"
 | Il=>"own"
 | BL=>"share"
 | B5=>"get_attr"
 | Cp=>"drop_attr"
 | CL=>"put_attr"
 | AO=>"names_of"
 | C6=>"dim_of"
 | B0=>"kind_order"
 | B4=>"common_kind"
 | DU=>"to_text"
 | CX=>"item_as"
 | Bb=>"is_atomic_kind"
 | Cs=>"with_names"
 | Ci=>"as_kind"
 | CD=>"as_list"
 | Bl=>"whole_subscripts"
 | A6=>"first_places"
 | Bz=>"partial_place"
 | Cr=>"one_name"
 | CN=>"one_whole"
 | Bo=>"one_place"
 | Bt=>"lacking_item"
 | Ah=>"is_list_kind"
 | Cz=>"one_item"
 | AN=>"vector_element"
 | AM=>"element_step"
 | BM=>"index_parts"
 | A9=>"is_long_index"
 | Bd=>"element"
 | C5=>"dollar"
 | AR=>"converted_items"
 | DH=>"raised"
 | BD=>"extend_vector"
 | B3=>"first_count"
 | BA=>"delete_places"
 | AY=>"element_kind"
 | AQ=>"put_element"
 | AC=>"assign_step"
 | A5=>"assign_down"
 | Ax=>"assign_element"
 | Bg=>"assign_dollar"
 | Dv=>"_law_row"
 | Ao=>"_law_next"
 | AE=>"_law_view"
 | BO=>"_law_names"
 | AX=>"_law_made"
 | CP=>"_law_list"
 | Bp=>"_law_names_of"
 | BX=>"_law_spot"
 | A7=>"_law_element"
 | Bq=>"_law_itemised"
 | Be=>"_law_put"
 | Cn=>"_law_index"
 | AV=>"_law_shown"
 | AZ=>"law"
noncomputable def Qt:Fn->List String
 | Ck=>["self"]
 | An=>["self","kind","items","attrs"]
 | AU=>["self","attrs"]
 | DJ=>["n"]
 | Bn=>["items"]
 | CK=>["v","kind"]
 | Br=>["v"]
 | Cm=>["v"]
 | Il=>["v"]
 | BL=>["v"]
 | B5=>["v","name"]
 | Cp=>["v","name"]
 | CL=>["v","name","value"]
 | AO=>["v","tag","dims","rows","names"]
 | C6=>["v","dims"]
 | B0=>["kind","kinds"]
 | B4=>["kinds","names","most","kind"]
 | DU=>["kind","item"]
 | CX=>["kind","item","to","notes"]
 | Bb=>["kind"]
 | Cs=>["v","names"]
 | Ci=>["v","kind","notes","items"]
 | CD=>["v"]
 | Bl=>["ix","found","item"]
 | A6=>["names","table","i","name"]
 | Bz=>["item","names","table","found","i"]
 | Cr=>["item","names","exact"]
 | CN=>["item","n"]
 | Bo=>["ix","n","names","exact","kind"]
 | Bt=>["kind"]
 | Ah=>["kind"]
 | Cz=>["v","place"]
 | AN=>["v","ix","exact","n","place"]
 | AM=>["v","ix","exact","tags","place"]
 | BM=>["ix"]
 | A9=>["ix"]
 | Bd=>["v","indexes","exact","ix","parts","i"]
 | C5=>["v","name","tags","place"]
 | AR=>["v","kind","notes"]
 | DH=>["v","kind","notes","attrs"]
 | BD=>["v","count","names","added","n","i","texts"]
 | B3=>["places","count","place"]
 | BA=>["v","places","names","count","gone","place","items","kept_names","i","inside","result","name"]
 | AY=>["v","value"]
 | AQ=>["v","place","name","value","notes","names","kind","result","added"]
 | AC=>["v","ix","value","notes","kind","n","place","name"]
 | A5=>["v","parts","value","notes","inner"]
 | Ax=>["v","indexes","value","notes","place","ix"]
 | Bg=>["v","name","value","notes"]
 | Dv=>["script","row","cell","figure","lap"]
 | Ao=>["row"]
 | AE=>["v","attrs"]
 | BO=>["row","many"]
 | AX=>["row","deep","kind","items","v","many"]
 | CP=>["row","kind","many","v"]
 | Bp=>["seen"]
 | BX=>["seen","key","exact","names","begun"]
 | A7=>["seen","key","exact","kind","items","attrs","spot"]
 | Bq=>["seen","kind","items","attrs"]
 | Be=>["seen","key","put","plain_one","kind","items","attrs","n","names","spot","left","added","longer"]
 | Cn=>["key"]
 | AV=>["told"]
 | AZ=>["script","row","v","value","held","put","n","key","ix","exact","name","told","notes","base","due","first","second","inner","changed"]
noncomputable def initOf:Dz->Fn
 | .null=> .Ck
 | .vector=> .An
noncomputable def Gd(i j:Nat):Option Bool:=if 12<=i/\i < 18/\12<=j/\j < 18 then some (KW.contains (i,j))else Option.none
theorem zz{a b c:Nat}(h:a<=b)(e:Nat.ble b c=true):a<=c:=Nat.le_trans h (Nat.le_of_ble_eq_true e)
theorem bK{a b c:Nat}(h:a < b)(e:Nat.ble b c=true):a<=c:=zz (Nat.le_of_lt h) e
theorem dB{x c k m:Nat}(e:x=c)(h:c < k)(b:Nat.ble k m=true):x<=m:=e▸Nat.le_trans (Nat.le_of_lt h) (Nat.le_of_ble_eq_true b)
theorem bY{x c k m:Nat}(e:x=1+c)(h:c < k)(b:Nat.ble k m=true):x<=m:=by rw[e,Nat.add_comm];exact Nat.le_trans h (Nat.le_of_ble_eq_true b)
theorem Uf{c k m:Nat}(h:c < k)(b:Nat.ble k m=true):1+c<=m:=bY rfl h b
theorem fF{p n c k:Nat}(h:p < c)(b:Nat.ble c k=true):p+1 - n<=k:=Nat.le_trans (Nat.sub_le _ _) (Nat.le_trans h (Nat.le_of_ble_eq_true b))
theorem cZ{a p:Nat}(h:a<=p+1):(p:Int)+1 - (a:Int)=((p+1 - a:Nat):Int):=(Int.ofNat_sub h).symm
theorem gU{a p:Nat}(h:a<=p):(p:Int)+1 - (a:Int)=((p+1 - a:Nat):Int):=cZ (Nat.le_succ_of_le h)
theorem bH{i n l:Nat}(h:i+(n+1)=l):i+1+n=l:=by rw[<-h,Nat.add_assoc,Nat.add_comm 1]
theorem cJ{i n l:Nat}(h:i+(n+1)=l):i < l:=h▸Nat.lt_add_of_pos_right (Nat.succ_pos n)
theorem cY{n:Nat}(h:((n+1+1:Nat):Int)=1):False:=by cases n<;>cases h
theorem fS{a p:Nat}(h:a<=p):a+(p+1 - a)=max a (p+1):=by rw[Nat.add_sub_cancel' (Nat.le_succ_of_le h),Nat.max_eq_right (Nat.le_succ_of_le h)]
theorem fU{a p:Nat}(h:¬a<=p):a=max a (p+1):=(Nat.max_eq_left (Nat.gt_of_not_le h)).symm
theorem fW{a p:Nat}(h:a<=p):p < a+(p+1 - a):=by rw[Nat.add_sub_cancel' (Nat.le_succ_of_le h)];exact Nat.lt_succ_self p
theorem gT{a p c k:Nat}(h:p < c)(g:a<=p)(b:Nat.ble c k=true):a+(p+1 - a)<=k:=by rw[Nat.add_sub_cancel' (Nat.le_succ_of_le g)];exact Nat.le_trans h (Nat.le_of_ble_eq_true b)
theorem qA{x y k g:Nat}(h:x+y<=g)(b:Nat.ble k y=true):k<=g:=Nat.le_trans (Nat.le_of_ble_eq_true b) (Nat.le_trans (Nat.le_add_left _ _) h)
theorem qD{y k g a b:Nat}(h:y<=g+a)(e:Nat.ble (k+a) (y+b)=true):k<=g+b:=by
 have:=Nat.add_le_add_right h b
 refine Nat.le_of_add_le_add_right (Nat.le_trans (Nat.le_of_ble_eq_true e) (Nat.le_trans this (Nat.le_of_eq ?_)))
 rw[Nat.add_assoc,Nat.add_assoc,Nat.add_comm a]
theorem qB{x y k g a b:Nat}(h:x+y<=g+a)(e:Nat.ble (k+a) (y+b)=true):k<=g+b:=qD (Nat.le_trans (Nat.le_add_left _ _) h) e
theorem qC{x y l c g a b:Nat}(i:l<=c)(h:x+y<=g+a)(e:Nat.ble (1+c+1+a) (y+b)=true):1+l+1<=g+b:=Nat.le_trans (Nat.succ_le_succ (Nat.add_le_add_left i 1)) (qB h e)
theorem gK{y l c g a b:Nat}(i:l<=c)(h:y<=g+a)(e:Nat.ble (1+c+1+a) (y+b)=true):1+l+1<=g+b:=Nat.le_trans (Nat.succ_le_succ (Nat.add_le_add_left i 1)) (qD h e)
theorem qF{y k g:Nat}(h:y<=g)(b:Nat.ble k y=true):g=g - k+k:=(Nat.sub_add_cancel (Nat.le_trans (Nat.le_of_ble_eq_true b) h)).symm
theorem qE{x y k g:Nat}(h:x+y<=g)(b:Nat.ble k y=true):g=g - k+k:=(Nat.sub_add_cancel (qA h b)).symm
theorem qG{a b:Nat}(h:a < b):Int.ofNat a < Int.ofNat b:=Int.ofNat_lt.mpr h
theorem qH{a b c:Nat}(h:a<=b)(e:Nat.ble b c=true):Int.ofNat a<=Int.ofNat c:=Int.ofNat_le.mpr (Nat.le_trans h (Nat.le_of_ble_eq_true e))
theorem qI{a b c:Nat}(h:a < b)(e:Nat.ble b c=true):(a:Int)+1<=Int.ofNat c:=qH (a:=a+1) h e
theorem qK{a b:Nat}:(0:Int) < (a:Int)+Int.ofNat (b+1):=Int.ofNat_lt.mpr (Nat.succ_pos (a+b))
theorem qL{i:Nat}:((i+1:Nat):Int) - 1=(i:Int):=Int.add_sub_cancel i 1
theorem qM{c n:Nat}(h:c+1<=n)(e:(n:Int)=0):False:=by cases n;exact Nat.not_succ_le_zero _ h;cases e
theorem qN{n:Nat}(e:((n+1:Nat):Int)=0):False:=by cases e
theorem qO{x a b:Nat}(h:x<=a+1+b):x<=a+(b+1):=by rw[Nat.add_assoc,Nat.add_comm 1]at h;exact h
theorem qP{x a b:Nat}(h:a+(b+1)<=x):a+1+b<=x:=by rw[Nat.add_assoc,Nat.add_comm 1];exact h
theorem qQ{a b c k:Nat}(h:a+b<=c)(e:Nat.ble (c+1) k=true):a < k:=Nat.le_trans (Nat.succ_le_succ (Nat.le_trans (Nat.le_add_right _ _) h)) (Nat.le_of_ble_eq_true e)
theorem qR{a b c:Nat}(h:a+(b+1)<=c):a < c:=Nat.le_trans (Nat.succ_le_succ (Nat.le_add_right a b)) h
theorem qU{j l t c k:Nat}(h:j < l)(e:l=t)(g:t<=c)(b:Nat.ble c k=true):j<=k:=Nat.le_trans (Nat.le_of_lt (e▸h)) (Nat.le_trans g (Nat.le_of_ble_eq_true b))
theorem qV{a b k:Nat}(h:a<=k)(e:k=b)(t:Nat.ble (b+1) a=true):False:=Nat.lt_irrefl b (Nat.le_trans (Nat.le_of_ble_eq_true t) (e▸h))
theorem qW{X t p a b:Nat}(e:X=max t (p+1))(h:t<=a)(g:p<=b)(u:Nat.ble (b+1) a=true):X<=a:=e▸Nat.max_le.mpr ⟨h,Nat.le_trans (Nat.succ_le_succ g) (Nat.le_of_ble_eq_true u)⟩
theorem qX{j t a b k:Nat}(h:j < t+a)(g:t<=b)(u:Nat.ble (b+a) k=true):j<=k:=Nat.le_trans (Nat.le_of_lt h) (Nat.le_trans (Nat.add_le_add_right g a) (Nat.le_of_ble_eq_true u))
theorem qY{f n q a k:Nat}(h:f<=n+1)(e:n=q)(g:q<=a)(u:Nat.ble (a+2) k=true):f < k:=Nat.le_trans (Nat.succ_le_succ (Nat.le_trans h (Nat.succ_le_succ (e▸g)))) (Nat.le_of_ble_eq_true u)
theorem qZ{o i n x a k:Nat}(h:o<=i)(e:i+(n+1)=x)(g:x<=a)(u:Nat.ble a k=true):o < k:=Nat.lt_of_le_of_lt h (Nat.lt_of_lt_of_le (cJ e) (Nat.le_trans g (Nat.le_of_ble_eq_true u)))
theorem q1{a z k:Nat}(h:a+31 * (z+1)<=k):a+1+30<=k:=Nat.le_trans (Nat.add_le_add_left (Nat.le_add_left 31 (31 * z)) a) h
theorem q2{b a z k:Nat}(h:a+31 * (z+1)<=k)(g:b<=a+1+30):b+31 * z<=k:=Nat.le_trans (Nat.add_le_add_right g (31 * z)) (Nat.le_trans (Nat.le_of_eq (by rw[Nat.mul_succ,Nat.add_comm (31 * z) 31,<-Nat.add_assoc])) h)
theorem q3{i l:Nat}(h:¬i < l)(e:i - l=0):i=l:=Nat.le_antisymm (Nat.le_of_sub_eq_zero e) (Nat.le_of_not_lt h)
theorem q4{l k:Nat}:0+31 * min 40 l<=k+1240:=by rw[Nat.zero_add];exact Nat.le_trans (Nat.mul_le_mul_left 31 (Nat.min_le_left 40 _)) (Nat.le_add_left _ _)
theorem q5{x a b c:Nat}(h:x<=a+b):x+c<=a+c+b:=by rw[Nat.add_right_comm];exact Nat.add_le_add_right h c
theorem dA{x c e L:Nat}(h:x+c < L)(b:Nat.ble e c=true):x+e < L:=Nat.lt_of_le_of_lt (Nat.add_le_add_left (Nat.le_of_ble_eq_true b) x) h
theorem dF{a w n y c e L:Nat}(h:a+n+y+c < L)(b:Nat.ble (w+e) c=true):a+w+n+y+e < L:=by
 refine Nat.lt_of_le_of_lt (Nat.le_of_eq ?_) (dA h b)
 rw[Nat.add_right_comm a w,Nat.add_right_comm (a+n) w,Nat.add_assoc _ w]
theorem YS{a w n y c L:Nat}(h:a+n+y+c < L)(b:Nat.ble w c=true):a+w+n+y < L:=dF (e:=0) h b
theorem dD{a n y k L:Nat}(h:a+n+y+(k+1) < L):a+1+n+y+k < L:=by rw[Nat.add_comm k 1,<-Nat.add_assoc,Nat.add_right_comm _ y 1,Nat.add_right_comm _ n 1]at h;exact h
theorem gZ{a n y k L:Nat}(h:a+n+y+(k+1) < L):a+1+n+y < L:=Nat.lt_of_le_of_lt (Nat.le_add_right _ k) (dD h)
theorem dG{a n y k L:Nat}(h:a+n+y+20 * (k+1) < L):a+3+n+y+20 * k < L:=by
 have:a+3+n+y+20 * k+17=a+n+y+20 * (k+1):=by rw[Nat.mul_succ,<-Nat.add_assoc,Nat.add_assoc _ _ 17,Nat.add_assoc _ _ 20,Nat.add_right_comm a 3,Nat.add_right_comm _ 3,Nat.add_assoc _ 3,Nat.add_left_comm 3]
 exact Nat.lt_of_le_of_lt (Nat.le_add_right _ 17) (this▸h)
theorem hF{a n y k L:Nat}(h:a+n+y+20 * (k+1) < L):a+3+n+y < L:=Nat.lt_of_le_of_lt (Nat.le_add_right _ _) (dG h)
theorem dH{a c d y e L:Nat}(h:a+c * (d+1)+y < L)(b:Nat.ble e c=true):a+c * d+y+e < L:=by
 rw[Nat.mul_succ,<-Nat.add_assoc,Nat.add_right_comm]at h;exact dA h b
theorem gH{a c d y L:Nat}(h:a+c * (d+1)+y < L):a+c * d+y < L:=dH (e:=0) h (by cases c<;>rfl)
theorem dI{a n y e L:Nat}(h:a+n+y < L)(b:Nat.ble e y=true):a+e < L:=by rw[Nat.add_right_comm]at h;exact dA (Nat.lt_of_le_of_lt (Nat.le_add_right _ n) h) b
theorem dJ{x d y e z L:Nat}(h:z+d < L)(b:Nat.ble (x+y+e) z=true):x+d+y+e < L:=by
 rw[Nat.add_comm]at h;have:=dA h b;rw[<-Nat.add_assoc,<-Nat.add_assoc,Nat.add_comm d x]at this;exact this
theorem fH{x d y z L:Nat}(h:z+d < L)(b:Nat.ble (x+y) z=true):x+d+y < L:=dJ (e:=0) h b
theorem dK{k n:Nat}(h:k < n):n+1 - (k+1) < n+1 - k:=Nat.sub_succ_lt_self _ _ (Nat.lt_succ_of_lt h)
theorem e1{lo hi:Int}(h:¬lo < hi):((hi - lo).toNat:Int) - ((0:Nat):Int)=0:=by rw[Int.toNat_of_nonpos (Int.sub_nonpos_of_le (Int.not_lt.mp h))];rfl
theorem e2{lo hi:Int}(h:lo < hi):((hi - lo).toNat:Int) - ((0:Nat):Int)=hi - lo:=(Int.sub_zero _).trans (Int.toNat_of_nonneg (Int.sub_nonneg_of_le (Int.le_of_lt h)))
theorem e3{a b:Int}:a - b - 1=a - (b+1):=Int.sub_sub a b 1
theorem e4{k a:Nat}(h:k < a):(0:Int) < (a:Int) - (k:Int):=Int.sub_pos_of_lt (Int.ofNat_lt.mpr h)
theorem e5{k:Int}{n:Nat}(h:0<=k)(g:k.toNat < n):0<=k/\k < (n:Int):=⟨h,(Int.toNat_lt h).mp g⟩
theorem e6{a b k:Nat}(h:a+b < k):a < k:=Nat.lt_of_le_of_lt (Nat.le_add_right a b) h
theorem e7{a:Nat}(h:a+1=a):False:=Nat.succ_ne_self a h
theorem e8{a b:Nat}(g:b≠0)(h:a+b=a):False:=g (Nat.add_left_cancel (h:a+b=a+0))
theorem e9{j s:Nat}(h:j < s)(g:min s s<=j):False:=Nat.lt_irrefl _ (Nat.lt_of_lt_of_le h ((Nat.min_self s).symm▸g:s<=j))
theorem eA{i l:Nat}(h:¬i < l)(g:i < l+1):i=l:=Nat.le_antisymm (Nat.le_of_lt_succ g) (Nat.le_of_not_lt h)
theorem eB{k:Int}{a b:Nat}(h:k<=Int.ofNat a)(e:Nat.ble (a+1) b=true):k < Int.ofNat b:=Int.lt_of_le_of_lt h (qG (Nat.le_of_ble_eq_true e))
theorem eC{k:Int}{a:Nat}(h:0<=k):Int.negSucc a<=k:=Int.le_trans (Int.le_of_lt (Int.negSucc_lt_zero a)) h
theorem f1{a d c k:Nat}(h:a<=d)(g:d<=c)(b:Nat.ble c k=true):a+(d - a)<=k:=by rw[Nat.add_sub_cancel' h];exact Nat.le_trans g (Nat.le_of_ble_eq_true b)
theorem f2{a p:Nat}:p < a+(p+1 - a):=Nat.sub_le_iff_le_add'.mp (Nat.le_refl _)
theorem f3{a p c k:Nat}(z:(p:Int)+1 - (a:Int)=((p+1 - a:Nat):Int))(h:p < c)(b:Nat.ble c k=true):a+(p+1 - a)<=k:=f1 (Int.ofNat_le.mp (Int.le_of_sub_nonneg (z▸Int.natCast_nonneg _:(0:Int)<=((p+1:Nat):Int) - a))) h b
theorem f4{n l a b:Nat}(h:n < l)(g:l<=a)(t:Nat.ble a b=true):0<=Int.ofNat n/\Int.ofNat n<=Int.ofNat b:=⟨Int.natCast_nonneg _,Int.ofNat_le.mpr (Nat.le_trans (Nat.le_of_lt h) (Nat.le_trans g (Nat.le_of_ble_eq_true t)))⟩
theorem f5{i p:Nat}(h:¬i=p)(g:i<=p):p - i=p - (i+1)+1:=by
 obtain⟨k,rfl⟩:=Nat.exists_eq_add_of_lt (Nat.lt_of_le_of_ne g h)
 rw[Nat.add_assoc,Nat.add_sub_cancel_left,<-Nat.add_assoc,Nat.add_right_comm,Nat.add_sub_cancel_left]
theorem f6{p x:Nat}(h:p < x)(g:(p:Int)+1 > (x:Int)):False:=Nat.not_le_of_gt (Int.ofNat_lt.mp g) h
theorem f7{a b c:Nat}{h:¬a=b}(e:a=c)(g:b=c):False:=h (e.trans g.symm)
theorem f8{x c:Nat}:0 < x+(c+1):=Nat.succ_pos _
theorem f9{i l a k:Nat}(h:l<=a)(b:Nat.ble (a+a) k=true):min i l+(l - (i+1))<=k:=Nat.le_trans (Nat.add_le_add (Nat.le_trans (Nat.min_le_right _ _) h) (Nat.le_trans (Nat.sub_le _ _) h)) (Nat.le_of_ble_eq_true b)
theorem g2{m n c k:Nat}(h:n<=c)(g:m < n)(e:Nat.ble c k=true):Int.ofNat m < Int.ofNat k:=qG (Nat.lt_of_lt_of_le g (Nat.le_trans h (Nat.le_of_ble_eq_true e)))
theorem g3{x y p:Nat}(e:x=p)(h:y < x):y < p:=e▸h
theorem g4{j b c:Nat}(g:b+j < c)(h:Nat.ble c b=true):False:=Nat.lt_irrefl _ (Nat.lt_of_lt_of_le g (Nat.le_trans (Nat.le_of_ble_eq_true h) (Nat.le_add_right _ _)))
theorem g5{x a k:Nat}(h:x<=a)(b:Nat.ble (a+1) k=true):x < k:=Nat.le_trans (Nat.succ_le_succ h) (Nat.le_of_ble_eq_true b)
theorem g8{k c:Nat}(h:k=8\/k=9)(e:k=c)(b:(Nat.beq c 8||Nat.beq c 9)=false):False:=by subst e;rcases h with rfl | rfl<;>cases b
theorem g9{k c:Nat}(h:k=7\/(k=8\/k=9))(e:k=c)(b:(Nat.beq c 7||(Nat.beq c 8||Nat.beq c 9))=false):False:=by subst e;rcases h with rfl | rfl | rfl<;>cases b
theorem h2{l d g:Nat}(h:l<=8)(e:13 * (d+1)+20<=g+9):13 * d+20+l+1<=g+5:=by
 refine Nat.le_of_add_le_add_right (b:=4) (Nat.le_trans ?_ e)
 show 13 * d+20+l+5<=13 * d+13+20
 rw[Nat.add_assoc (13 * d),Nat.add_assoc (13 * d),Nat.add_assoc (13 * d) 13]
 exact Nat.add_le_add_left (Nat.add_le_add_right (Nat.add_le_add_left h 20) 5) _
theorem h3{a b:Nat}(h:a < b)(e:a=b):False:=Nat.ne_of_lt h e
theorem i1{k:Int}{a b:Nat}(h:k<=Int.ofNat a)(e:Nat.ble a b=true):1 * k.toNat<=b:=by rw[Nat.one_mul];exact zz (Int.toNat_le.mpr h) e
theorem i2{i:Int}{n:Nat}(h:0<=i/\i<=(n:Int)):i.natAbs<=n:=by obtain⟨k,rfl⟩:=Int.eq_ofNat_of_zero_le h.1;exact Int.ofNat_le.mp h.2
theorem i3{a p q:Nat}(h:a<=p)(g:p<=q):a+(p - a)=min p q:=(Nat.add_sub_cancel' h).trans (Nat.min_eq_left g).symm
theorem XA{p:Prop}{b:Bool}(h:b=true)(g: @Bool.rec (fun J=>Prop) True p b):p:=by subst h;exact g
set_option hygiene false in
local macro_rules | `(tactic| obtain $p:rcasesPatMed := $v:term) => `(tactic| (refine Classical.byContradiction fun hN => ?_; rcases $v:term with $p:rcasesPatMed <;> (refine hN ?_; clear hN)))
set_option hygiene false in
local macro_rules | `(tactic| cases $x:ident $a:inductionAlts) => do let l <- #[`Option.casesOn, `List.casesOn, `Aj.casesOn, `Except.casesOn, `Bf.casesOn, `El.casesOn, `Nat.casesAuxOn, `Or.casesOn, `LV.casesOn, `TV.casesOn, `LC.casesOn, `Nd.casesOn, `Bool.casesOn, `R.casesOn, `V.casesOn, `Pl.casesOn, `Af.casesOn, `Oc.casesOn, `Value.casesOn, `PySem.Expr.casesOn, `Fn.casesOn, `PySem.Stmt.casesOn, `PySem.Const.casesOn, `PySem.Data.casesOn, `VP.casesOn, `U8.casesOn, `Ty.casesOn, `Dz.casesOn, `Ct.casesOn, `Sc.casesOn, `OR.casesOn, `OV.casesOn].mapM fun t => `(tacticSeq| induction $x:ident using $(Lean.mkIdent t):ident $a:inductionAlts); let l := l.push (<- `(tacticSeq| cases ($x) $a:inductionAlts)); `(tactic| first $[| $l:tacticSeq]*)
set_option hygiene false in
local macro_rules | `(tactic| cases $h:ident : $e:term $a:inductionAlts) => `(tactic| (generalize $h : $e = yZ; cases yZ $a:inductionAlts))
set_option hygiene false in
local macro_rules | `(tactic| cases $h:ident) => do let i <- #[4, 3, 2, 1].mapM fun n => (do let v := (Array.range n).map fun k => Lean.mkIdent (.mkSimple s!"hX{k + 1}"); let t <- v.foldlM (fun t i => `(tactic| $t <;> cases $i:ident)) (<- `(tactic| skip)); `(tacticSeq| injection $h:ident with $[$v:ident]*; $t:tactic)); let l <- #[`Option.casesOn, `List.casesOn, `Aj.casesOn, `Except.casesOn, `Bf.casesOn, `El.casesOn, `Nat.casesAuxOn, `Or.casesOn, `LV.casesOn, `TV.casesOn, `LC.casesOn, `Nd.casesOn, `Bool.casesOn, `R.casesOn, `V.casesOn, `Pl.casesOn, `Af.casesOn, `Oc.casesOn, `Value.casesOn, `PySem.Expr.casesOn, `Fn.casesOn, `PySem.Stmt.casesOn, `PySem.Const.casesOn, `PySem.Data.casesOn, `VP.casesOn, `U8.casesOn, `Ty.casesOn, `Dz.casesOn, `Ct.casesOn, `Sc.casesOn, `OR.casesOn, `OV.casesOn].mapM fun t => `(tacticSeq| induction $h:ident using $(Lean.mkIdent t):ident); let l := #[<- `(tacticSeq| (injection $h:ident; done)), <- `(tacticSeq| rcases $h:ident with rfl)] ++ i ++ l ++ #[<- `(tacticSeq| cases ($h))]; `(tactic| first $[| $l:tacticSeq]*)
section
open PySem PySem.W PyProof.Rows PySem.Calls PySem.SeqAt
noncomputable def Es:= @List.getElem?_eq_some_iff
noncomputable def CZ:= @List.forall_mem_cons
noncomputable def S2:= @List.length_append
noncomputable def As:= @wpAny_bind
noncomputable def BH:= @wpAny_pure
noncomputable def Dx:= @Heap.get?_push_of_some
noncomputable def DK:= @Bool.and_eq_true
noncomputable def BE:= @List.prefix_refl
noncomputable def C9:= @List.mem_append_right
noncomputable def B1:= @List.mem_append_left
noncomputable def wd(i:Nat):Str:=if i < 38 then Str.ofString (RX.getD i "?")else⟨#[2000000+i]⟩
noncomputable def WV(i:Int):Str:=Str.ofString (toString i)
structure Un where
 prog:Program
 w:World
 K:Frag
 p:Program
 loose:List Str
 mean:ExcName->Option Value
 mg:Str->Option Value
 mb:Str->Option Value
 cls:Dz->Addr
 sa:Addr
 Aa:List Int
 pin:Addr->Option Obj:=fun J=>none
 tabA:Addr
noncomputable abbrev A8:=List (Addr×Addr)
noncomputable def VR(sa:Addr)(ρ:A8):V->Value->Prop
 | .none,v=>v=.none
 | .bool b,v=>v=.bool b
 | .int i,v=>∃t,v=.int i t
 | .w i,v=>∃t,v=.str (wd i) t
 | .dec i,v=>∃t,v=.str (WV i) t
 | .ref a,v=>∃p,ρ[a]? =some p/\v=.ref p.1
 | .ext,v=>v=.ref sa
theorem Dh{ρ ρ':A8}(h:ρ <+:ρ'){a:Nat}{p}(e:ρ[a]? =some p):ρ'[a]? =some p:=by
 obtain⟨t,rfl⟩:=h
 rw[List.getElem?_append_left (Es.mp e).1];exact e
theorem VR.mono{sa:Addr}{ρ ρ':A8}(h:ρ <+:ρ'):∀{v:V} {x:Value},VR sa ρ v x->VR sa ρ' v x
 | .none,_,e=>e
 | .bool _,_,e=>e
 | .int _,_,e=>e
 | .w _,_,e=>e
 | .dec _,_,e=>e
 | .ref _,_,⟨p,e,q⟩=>⟨p,Dh h e,q⟩
 | .ext,_,e=>e
noncomputable def C1(sa:Addr)(ρ:A8):List V->List Value->Prop
 | [],[]=>True
 | v::vs,x::xs=>VR sa ρ v x/\C1 sa ρ vs xs
 | _,_=>False
theorem C1.mono{sa:Addr}{ρ ρ':A8}(h:ρ <+:ρ'):∀{vs:List V} {xs:List Value},C1 sa ρ vs xs->C1 sa ρ' vs xs
 | [],[],_=>trivial
 | _::_,_::_,⟨a,b⟩=>⟨a.mono h,C1.mono h b⟩
 | [],_::_,e=>e.elim
 | _::_,[],e=>e.elim
noncomputable def Gf(sa:Addr)(ρ:A8):List (Nat×V)->List (Str×Value)->Prop
 | [],[]=>True
 | p::r,e::es=>e.1=wd p.1/\VR sa ρ p.2 e.2/\Gf sa ρ r es
 | _,_=>False
noncomputable def My(sa:Addr)(ρ:A8):List (Int×V)->List (Int×Value)->Prop
 | [],[]=>True
 | p::r,e::es=>e.1=p.1/\VR sa ρ p.2 e.2/\My sa ρ r es
 | _,_=>False
noncomputable def J8(sa:Addr)(ρ:A8):List (Nat×V)->List DictEntry->Prop
 | [],[]=>True
 | p::r,e::es=>(∃t,e.key=.str (wd p.1) t)/\VR sa ρ p.2 e.val/\J8 sa ρ r es
 | _,_=>False
theorem Gf.mono{sa:Addr}{ρ ρ':A8}(h:ρ <+:ρ'):∀{vs:List (Nat×V)} {xs:List (Str×Value)},Gf sa ρ vs xs->Gf sa ρ' vs xs
 | [],[],_=>trivial
 | _::_,_::_,⟨a,c,d⟩=>⟨a,c.mono h,Gf.mono h d⟩
 | [],_::_,e=>e.elim
 | _::_,[],e=>e.elim
theorem My.mono{sa:Addr}{ρ ρ':A8}(h:ρ <+:ρ'):∀{vs:List (Int×V)} {xs:List (Int×Value)},My sa ρ vs xs->My sa ρ' vs xs
 | [],[],_=>trivial
 | _::_,_::_,⟨a,c,d⟩=>⟨a,c.mono h,My.mono h d⟩
 | [],_::_,e=>e.elim
 | _::_,[],e=>e.elim
theorem J8.mono{sa:Addr}{ρ ρ':A8}(h:ρ <+:ρ'):∀{vs:List (Nat×V)} {xs:List DictEntry},J8 sa ρ vs xs->J8 sa ρ' vs xs
 | [],[],_=>trivial
 | _::_,_::_,⟨a,c,d⟩=>⟨a,c.mono h,J8.mono h d⟩
 | [],_::_,e=>e.elim
 | _::_,[],e=>e.elim
noncomputable abbrev PC(vs:List Value):Obj:={ cls:= .type "tuple",data:= .seq vs.toArray}
noncomputable def CW:Str:=Str.ofString "law"++".<locals>."++"<lambda>"
noncomputable def Ld(ps:List Value)(codes:List (Addr×Obj)):Prop:=
 ∀pos cv,codeAmong pos ps=some cv->∃c' oc vs t,cv=.ref c'/\(c',oc) ∈ codes/\oc.data=.fields vs/\vs[1]? =some (.str CW t)
noncomputable def CR(U:Un)(ρ:A8)(c:Af)(a:Addr×Addr)(l:List (Addr×Obj)):Prop:=match c with
 | .list xs=>∃vs n,l=[(a.1,W.listOf (List.toArray vs) n)]/\C1 U.sa ρ xs vs
 | .tup xs=>∃vs,l=[(a.1,PC vs)]/\C1 U.sa ρ xs vs
 | .dictW kvs=>∃o es,l=[(a.1,o)]/\o.IsDictOf (PySem.strKind U.prog U.w) es/\Gf U.sa ρ kvs es
 | .dictP kvs=>∃o es,l=[(a.1,o)]/\o.IsDictOf (PySem.strKind U.prog U.w) es/\Gf U.sa ρ kvs es/\U.pin a.1=some o
 | .dictI kvs=>∃o es,l=[(a.1,o)]/\o.IsDictOf (PySem.intKind U.prog U.w) es/\My U.sa ρ kvs es
 | .inst k fs=>∃es n,l=[(a.1,instObj (U.cls k) a.2),(a.2,W.dictOf es n)]/\J8 U.sa ρ fs es
 | .tab=>∃ps codes,l=(a.1,tabObj ps)::codes/\a.1=U.tabA/\TriplesOk ps.toList/\Ld ps.toList codes
theorem CR.mono{U:Un}{ρ ρ':A8}(h:ρ <+:ρ'){c:Af}{a:Addr×Addr}{l:List (Addr×Obj)}(x:CR U ρ c a l):CR U ρ' c a l:=by
 cases c with
 | list xs=>obtain⟨vs,n,e,v⟩:=x;exact⟨vs,n,e,v.mono h⟩
 | tup xs=>obtain⟨vs,e,v⟩:=x;exact⟨vs,e,v.mono h⟩
 | dictW xs=>obtain⟨vs,n,e,d,v⟩:=x;exact⟨vs,n,e,d,v.mono h⟩
 | dictP xs=>obtain⟨vs,n,e,d,v,p⟩:=x;exact⟨vs,n,e,d,v.mono h,p⟩
 | dictI xs=>obtain⟨vs,n,e,d,v⟩:=x;exact⟨vs,n,e,d,v.mono h⟩
 | inst k xs=>obtain⟨vs,n,e,v⟩:=x;exact⟨vs,n,e,v.mono h⟩
 | tab=>exact x
noncomputable def PR(U:Un)(ρ:A8):MH->A8->List (List (Addr×Obj))->Prop
 | [],[],[]=>True
 | c::H,a::r,l::ps=>CR U ρ c a l/\PR U ρ H r ps
 | _,_,_=>False
theorem PR.mono{U:Un}{ρ ρ':A8}(h:ρ <+:ρ'):∀{H:MH} {r:A8} {ps:List (List (Addr×Obj))},PR U ρ H r ps->PR U ρ' H r ps
 | [],[],[],_=>trivial
 | _::_,_::_,_::_,⟨a,b⟩=>⟨a.mono h,PR.mono h b⟩
 | [],[],_::_,e=>e.elim
 | [],_::_,_,e=>e.elim
 | _::_,[],_,e=>e.elim
 | _::_,_::_,[],e=>e.elim
theorem PR.len{U:Un}{ρ:A8}:∀{H:MH} {r:A8} {ps:List (List (Addr×Obj))},PR U ρ H r ps->r.length=H.length
 | [],[],[],_=>rfl
 | _::_,_::_,_::_,⟨_,b⟩=>congrArg (·+1) b.len
 | [],[],_::_,e=>e.elim
 | [],_::_,_,e=>e.elim
 | _::_,[],_,e=>e.elim
 | _::_,_::_,[],e=>e.elim
theorem PR.push{U:Un}{ρ:A8}{c:Af}{a:Addr×Addr}{l:List (Addr×Obj)}(x:CR U ρ c a l):∀{H:MH} {r:A8} {ps:List (List (Addr×Obj))},PR U ρ H r ps->PR U ρ (H++[c]) (r++[a]) (ps++[l])
 | [],[],[],_=>⟨x,trivial⟩
 | _::_,_::_,_::_,⟨a,b⟩=>⟨a,b.push x⟩
 | [],[],_::_,e=>e.elim
 | [],_::_,_,e=>e.elim
 | _::_,[],_,e=>e.elim
 | _::_,_::_,[],e=>e.elim
inductive PR.atI(U:Un)(ρ:A8)(H:MH)(r:A8)(ps:List (List (Addr×Obj)))(i:Nat)(c:Af):Prop
 | mk (a:_) (l:_) (pre:_) (post:_) (q0:r[i]? =some a) (q1:ps=pre++l::post) (q2:CR U ρ c a l) (q3:∀c' l',CR U ρ c' a l'->PR U ρ (H.set i c') r (pre++l'::post)):PR.atI U ρ H r ps i c
theorem PR.at{U:Un}{ρ:A8}:∀{H:MH} {r:A8} {ps:List (List (Addr×Obj))} {i:Nat} {c:Af},PR U ρ H r ps->H[i]? =some c->
  PR.atI U ρ H r ps i c
 | [],_,_,_,_,_,e=>by simp at e
 | _::_,[],_,_,_,x,_=>x.elim
 | _::_,_::_,[],_,_,x,_=>x.elim
 | c₀::H,a::r,l::ps,0,c,⟨x,y⟩,e=>by
  simp only [List.getElem?_cons_zero,Option.some.injEq]at e
  subst e
  exact⟨a,l,[],ps,rfl,rfl,x,fun c' l' z=>⟨z,y⟩⟩
 | c₀::H,a::r,l::ps,i+1,c,⟨x,y⟩,e=>by
  rw[List.getElem?_cons_succ]at e
  obtain⟨a',l',pre,post,e1,e2,e3,e4⟩:=y.at e
  exact⟨a',l',l::pre,post,e1,by rw[e2];rfl,e3,fun c' l'' z=>⟨x,e4 c' l'' z⟩⟩
noncomputable def BC(l:List (Addr×Obj)):Prop:=(l.map (·.1)).Nodup
inductive FS(U:Un)(G:Heap)(L:Addr)(m:Str->Option Value)(px:List (Addr×Obj))(ρ:A8)(H:MH)(h:Heap):Prop
 | mk (fr:Fr G L h m) (ps:_) (q0:PR U ρ H ρ ps) (q1:News G L h (px++ps.flatten)) (q2:BC (px++ps.flatten)) (q3:∀p ∈ ps.flatten,3 < p.1):FS U G L m px ρ H h
theorem FS.fr{U:Un}{G:Heap}{L:Addr}{m:Str->Option Value}{px:List (Addr×Obj)}{ρ:A8}{H:MH}{h:Heap}(x:FS U G L m px ρ H h):Fr G L h m:=x.rec fun F J J J J J=>F
theorem BP{l l':List (Addr×Obj)}(p:l.Perm l')(d:BC l):BC l':=(p.map _).nodup_iff.mp d
theorem Gy{l n:List (Addr×Obj)}(d:BC l)(dn:BC n)(h:∀p ∈ n,∀q ∈ l,q.1 < p.1):BC (n++l):=by
 unfold BC at *
 rw[List.map_append,List.nodup_append]
 refine⟨dn,d,fun a ha b hb e=> ?_⟩
 obtain⟨p,hp,rfl⟩:=List.mem_map.mp ha
 obtain⟨q,hq,rfl⟩:=List.mem_map.mp hb
 exact absurd (h p hp q hq) (by rw[e];exact Nat.lt_irrefl _)
section
variable{U:Un}{G:Heap}{L:Addr}{m:Str->Option Value}{px:List (Addr×Obj)}{ρ:A8}{H:MH}{h h':Heap}
theorem DE{l l':List (Addr×Obj)}(N:News G L h l)(s:∀p ∈ l',p ∈ l):News G L h l':=fun p hp=>N p (s p hp)
theorem FS.len(x:FS U G L m px ρ H h):ρ.length=H.length:=x.rec fun J J p J J J=>p.len
theorem FS.keeps(x:FS U G L m px ρ H h)(k:∀b o,h.get? b=some o->h'.get? b=some o):FS U G L m px ρ H h':=by
 obtain⟨F,ps,p,N,d,lo⟩:=x
 exact⟨F.keeps k,ps,p,N.grown k,d,lo⟩
inductive FS.allI(U:Un)(G:Heap)(L:Addr)(m:Str->Option Value)(px:List (Addr×Obj))(ρ:A8)(H:MH)(h:Heap):Prop
 | mk (l:_) (q0:News G L h l) (q1:BC l) (q2:(∀p ∈ px,p ∈ l)) (q3:∀(c:Af) (a:Addr×Addr) (n:List (Addr×Obj)) (h':Heap),Fr G L h' m->News G L h' (n++l)->(∀p ∈ n,∀q ∈ l,q.1 < p.1)->BC n->(∀p ∈ n,3 < p.1)->CR U (ρ++[a]) c a n->FS U G L m px (ρ++[a]) (H++[c]) h'):FS.allI U G L m px ρ H h
theorem FS.all(x:FS U G L m px ρ H h):FS.allI U G L m px ρ H h:=by
 obtain⟨F,ps,p,N,d,lo⟩:=x
 refine⟨_,N,d,fun p hp=>B1 _ hp,fun c a n h' F' N' hl dn lo' y=>⟨F',ps++[n],(p.mono (List.prefix_append ..)).push y,?_,?_,?_⟩⟩
 .refine DE N' fun q hq=> ?_
  simp only [List.flatten_append,List.flatten_cons,List.flatten_nil,List.append_nil,List.mem_append]at hq ⊢
  rcases hq with hq | hq | hq
  .exact .inr (.inl hq)
  .exact .inr (.inr hq)
  .exact .inl hq
 .have:=Gy d dn hl
  refine BP ?_ this
  simp only [List.flatten_append,List.flatten_cons,List.flatten_nil,List.append_nil,<-List.append_assoc]
  rw[List.append_assoc]
  exact List.perm_append_comm
 .intro q hq
  simp only [List.flatten_append,List.flatten_cons,List.flatten_nil,List.append_nil,List.mem_append]at hq
  rcases hq with hq | hq
  .exact lo q hq
  .exact lo' q hq
theorem Nk{a:Addr}{o o':Obj}:∀{pre post:List (Addr×Obj)},BC (pre++(a,o)::post)->W.Upd a o o' (pre++(a,o)::post) (pre++(a,o')::post)
 | [],post,d=> .head fun p hp e=>by
  unfold BC at d
  rw[List.nil_append,List.map_cons,List.nodup_cons]at d
  exact d.1 (e▸List.mem_map_of_mem (f:=(·.1)) hp:a ∈ post.map (·.1))
 | q::pre,post,d=>by
  unfold BC at d
  rw[List.cons_append,List.map_cons,List.nodup_cons]at d
  refine .tail (fun e=>d.1 ?_) (Nk d.2)
  rw[e]
  exact List.mem_map_of_mem (f:=(·.1)) (a:=(a,o)) (by simp)
theorem OL{a:Addr}{o:Obj}:∀{pre post:List (Addr×Obj)},BC (pre++(a,o)::post)->W.UpdF a o (pre++(a,o)::post) fun o'=>pre++(a,o')::post
 | [],post,d=> .head fun p hp e=>by
  unfold BC at d
  rw[List.nil_append,List.map_cons,List.nodup_cons]at d
  exact d.1 (e▸List.mem_map_of_mem (f:=(·.1)) hp:a ∈ post.map (·.1))
 | q::pre,post,d=>by
  unfold BC at d
  rw[List.cons_append,List.map_cons,List.nodup_cons]at d
  refine .tail (fun e=>d.1 ?_) (OL d.2)
  rw[e]
  exact List.mem_map_of_mem (f:=(·.1)) (a:=(a,o)) (by simp)
theorem Hu{a:Addr}{o o':Obj}{pre post:List (Addr×Obj)}(d:BC (pre++(a,o)::post)):BC (pre++(a,o')::post):=by
 unfold BC at *
 simpa using d
inductive FS.cellI(U:Un)(G:Heap)(L:Addr)(m:Str->Option Value)(px:List (Addr×Obj))(ρ:A8)(H:MH)(h:Heap)(i:Nat)(c:Af):Prop
 | mk (a:_) (n:_) (pre:_) (post:_) (q0:ρ[i]? =some a) (q1:CR U ρ c a n) (q2:News G L h (pre++n++post)) (q3:BC (pre++n++post)) (q4:(∀p ∈ n,3 < p.1)) (q5:(∀p ∈ px,p ∈ pre)) (q6:∀(c':Af) (n':List (Addr×Obj)) (h':Heap),Fr G L h' m->News G L h' (pre++n'++post)->n'.map (·.1)=n.map (·.1)->CR U ρ c' a n'->FS U G L m px ρ (H.set i c') h'):FS.cellI U G L m px ρ H h i c
theorem FS.cell(x:FS U G L m px ρ H h){i:Nat}{c:Af}(e:H[i]? =some c):FS.cellI U G L m px ρ H h i c:=by
 obtain⟨F,ps,p,N,d,lo⟩:=x
 obtain⟨a,n,pre,post,e1,e2,e3,e4⟩:=p.at e
 subst e2
 have w:∀k:List (Addr×Obj),px++(pre++k::post).flatten=(px++pre.flatten)++k++post.flatten:=fun k=>by simp
 rw[w]at N d
 refine⟨a,n,_,_,e1,e3,N,d,fun q hq=>lo q (by simp[hq]),fun q hq=>B1 _ hq,fun c' n' h' F' N' em y=>⟨F',_,e4 c' n' y,by rw[w];exact N',?_,?_⟩⟩
 .rw [w]
  unfold BC at *
  simp only [List.map_append]at d ⊢
  rw[em];exact d
 .intro q hq
  have hq':q.1 ∈ (pre++n'::post).flatten.map (·.1):=List.mem_map_of_mem hq
  have:(pre++n'::post).flatten.map (·.1)=(pre++n::post).flatten.map (·.1):=by simp[em]
  rw[this]at hq'
  obtain⟨r,hr,er⟩:=List.mem_map.mp hq'
  rw[<-er];exact lo r hr
end
theorem Yi:∀i,i < 38->∀j,j < 38->wd i=wd j->i=j:=by decide+kernel
theorem Mf:∀i,i < 38->(wd i).cps.all (· < 1000)=true:=by decide+kernel
theorem Jq(i:Nat)(h:¬i < 38):wd i=⟨#[2000000+i]⟩:=if_neg h
theorem N8{i j:Nat}(e:wd i=wd j):i=j:=by
 by_cases hi:i < 38
 .by_cases hj:j < 38
  .exact Yi i hi j hj e
  .have:=Mf i hi
   rw[e,Jq j hj]at this
   simp at this
   exact(g4 (b:=2000000) this (by rfl)).elim
 .by_cases hj:j < 38
  .have:=Mf j hj
   rw[<-e,Jq i hi]at this
   simp at this
   exact(g4 (b:=2000000) this (by rfl)).elim
  .rw [Jq i hi,Jq j hj]at e
   have:=congrArg PySem.Str.cps e
   simp at this
   omega
theorem Ou(i j:Nat):(wd i==wd j)=(i==j):=by
 by_cases h:i=j
 .subst h;simp
 .have:wd i≠wd j:=fun e=>h (N8 e)
  rw[beq_eq_false_iff_ne.mpr this,beq_eq_false_iff_ne.mpr h]
structure Ys(U:Un)(c:Dz)(a:Nat):Prop where
 plain:plainGet U.K (U.cls c) (wd a)=true
 taker:takerIn U.K (U.cls c) (wd a)=some none
 find:∃attr,findIn U.K (.ref (U.cls c)) (wd a)=some attr/\noGet U.K attr=true
noncomputable def CV:List Nat:=[0,1,2,3,4,35]
structure UF(U:Un):Prop where
 attr:∀c a,a ∈ CV->Ys U c a
 dict:∀c,hasDictIn U.K (U.cls c)=true
 seta:∀c,findIn U.K (.ref (U.cls c)) "__setattr__"=some (some (.builtin "object.__setattr__"))
 over:∀c,plainOver U.K (U.cls c)=true
structure Rk(bg:Fi):Prop where
 ok:∀i j t,bg i j=some t->Txt.startswith (wd i) (wd j)=t
structure GF(U:Un)(G:Heap):Prop where
 K:U.K.In G
 T:Top U.p U.loose U.mean U.mg U.mb G
 ext:∃vs,G.IsList U.sa (List.toArray vs)/\IntsAre vs U.Aa/\vs.length<=sizeLine
theorem GF.keeps{U:Un}{G G':Heap}(x:GF U G)(k:∀b o,G.get? b=some o->G'.get? b=some o):GF U G':=
 ⟨x.K.keeps k,x.T.keeps k,let⟨vs,a,b⟩:=x.ext;⟨vs,a.at (fun o e=>k _ o e),b⟩⟩
structure Fx where
 G:Heap
 L:Addr
 m:Str->Option Value
 own:List (Addr×Obj)
 ex:List (Addr×Obj)
 base:Heap
 l:List PySem.Env
noncomputable abbrev Fx.px(X:Fx):List (Addr×Obj):=X.own++X.ex
noncomputable abbrev AL(U:Un)(X:Fx)(ρ:A8)(H:MH)(h:Heap):Prop:=FS U X.G X.L X.m X.px ρ H h
inductive fR(h base:Heap)(e:Addr)(cls:Value)(d L:Addr):Prop
 | mk (oe:_) (vs:_) (q0:h.get? e=some oe) (q1:oe.cls=cls) (q2:oe.dict=some d) (q3:oe.data=.fields vs) (q4:1 < vs.size) (q5:(vs[1]? =some .none\/∃T oT ts,vs[1]? =some (.ref T)/\base.get? T=none/\T≠e/\h.get? T=some oT/\oT.data=.fields ts/\(ts[3]? =some .none\/ts[3]? =some (rawInt L)))):fR h base e cls d L
inductive Ew(cls:Value)(base:Heap)(l:List PySem.Env)(L:Addr)(e:Addr)(msg:Nat)(news:List (Addr×Obj))(h:Heap):Prop
 | mk (B:_) (d:_) (es:_) (n:_) (t:_) (q0:base.StaysIn B) (q1:(∀q ∈ news,B.get? q.1=some q.2/\base.get? q.1=none)) (q2:B.StaysIn h) (q3:B.get? e=none) (q4:h.FunFrames B l) (q5:fR h B e cls d L) (q6:B.get? d=some (W.dictOf es n)) (q7:getL "message" es=some (some (.str (wd msg) t))):Ew cls base l L e msg news h
inductive Sv(U:Un)(cls:Value)(X:Fx)(msg:Nat)(ρ':A8)(H':MH)(e:Addr)(h':Heap):Prop
 | mk (ps:_) (h₂:_) (q0:PR U ρ' H' ρ' ps) (q1:BC (X.px++ps.flatten)) (q2:(∀p ∈ ps.flatten,3 < p.1)) (q3:Ew cls X.base X.l X.L e msg (X.px++ps.flatten) h') (q4:Fr X.G X.L h₂ X.m) (q5:h₂.UpToSlots h'):Sv U cls X msg ρ' H' e h'
section
variable{α β α' β':Type}{U:Un}{xc:Value}{X:Fx}{ρ:A8}{H:MH}{s:Shared}{E:Value->Shared->Prop}
noncomputable def Ae(rel:A8->α->β->Prop)(U:Un)(xc:Value)(X:Fx)(ρ:A8)(r:R α)(Q:β->Shared->Prop)(E:Value->Shared->Prop)(s:Shared):Prop:=match r with
 | .ok v H'=>∀ρ' v' h' CG,ρ <+:ρ'->AL U X ρ' H' h'->rel ρ' v v'->Q v' { s with heap:=h',toks:=CG}
 | .exc msg H'=>∀ρ' e h' CG,ρ <+:ρ'->Sv U xc X msg ρ' H' e h'->E (.ref e) { s with heap:=h',toks:=CG}
 | .bad=>False
theorem Ae.bnd{rel1:A8->α->β->Prop}{rel2:A8->α'->β'->Prop}{m:M α}{f:α->M α'}{Q:β'->Shared->Prop}{Q1:β->Shared->Prop}
  (hp:Ae rel2 U xc X ρ (Mine.bnd m f H) Q E s)
  (k:∀a H1 ρ1 a' h1 Bk,m H=.ok a H1->ρ <+:ρ1->AL U X ρ1 H1 h1->rel1 ρ1 a a'->Ae rel2 U xc X ρ1 (f a H1) Q E { s with heap:=h1,toks:=Bk}->Q1 a' { s with heap:=h1,toks:=Bk}):
  Ae rel1 U xc X ρ (m H) Q1 E s:=by
 unfold Mine.bnd at hp
 unfold Ae at hp ⊢
 cases e:m H with
 | ok a H1=>
  rw[e]at hp
  dsimp only at hp ⊢
  intro ρ1 a' h1 Bk l1 F1 r1
  refine k a H1 ρ1 a' h1 Bk e l1 F1 r1 ?_
  unfold Ae
  cases e2:f a H1 with
  | ok v H'=>rw[e2]at hp;exact fun ρ' v' h' CG l'=>hp ρ' v' h' CG (l1.trans l')
  | exc msg H'=>rw[e2]at hp;exact fun ρ' e' h' CG l'=>hp ρ' e' h' CG (l1.trans l')
  | bad=>rw[e2]at hp;exact hp
 | exc msg H'=>rw[e]at hp;exact hp
 | bad=>rw[e]at hp;exact hp
section
variable{f:Af->M α}{Q:β->Shared->Prop}{rel:A8->α->β->Prop}
theorem Dl{γ:Type}{o:Option γ}{k:γ->M α}{P:Prop}(hp:Ae rel U xc X ρ (Mine.bnd (Co o) k H) Q E s)(f:∀a,o=some a->Ae rel U xc X ρ (k a H) Q E s->P):P:=by
 cases o with
 | none=>exact hp.elim
 | some a=>exact f a rfl hp
theorem Bu{v:V}{P:V->Prop}(hp:Ae rel U xc X ρ (Mine.bnd (B6 v) f H) Q E s)(k:∀a c,H[a]? =some c->Ae rel U xc X ρ (f c H) Q E s->P (.ref a)):P v:=
 @V.casesOn (fun v=>Ae rel U xc X ρ (Mine.bnd (B6 v) f H) Q E s->P v) v (fun h=>h.elim) (fun J h=>h.elim) (fun J h=>h.elim) (fun J h=>h.elim) (fun J h=>h.elim) (fun a h=>Dl (o:=H[a]?) h (k a)) (fun h=>h.elim) hp
theorem FB{v:V}{k:Nat->Af->M α}{P:V->Prop}(hp:Ae rel U xc X ρ (Jz v k H) Q E s)(f:∀a c,H[a]? =some c->Ae rel U xc X ρ (k a c H) Q E s->P (.ref a)):P v:=
 @V.casesOn (fun v=>Ae rel U xc X ρ (Jz v k H) Q E s->P v) v (fun h=>h.elim) (fun J h=>h.elim) (fun J h=>h.elim) (fun J h=>h.elim) (fun J h=>h.elim) (fun a h=>Dl (o:=H[a]?) h (f a)) (fun h=>h.elim) hp
theorem Pt{v:V}(hp:Ae rel U xc X ρ (Mine.bnd (B6 v) f H) Q E s):∃a c,v=.ref a/\H[a]? =some c/\Ae rel U xc X ρ (f c H) Q E s:=by
 exact Bu (P:=fun v=>∃a c,v=.ref a/\H[a]? =some c/\Ae rel U xc X ρ (f c H) Q E s) hp fun a c e hp=>⟨a,c,rfl,e,hp⟩
theorem E7{v:V}{k:Int->M α}{P:V->Prop}(hp:Ae rel U xc X ρ (vI v bad k H) Q E s)(f:∀i,Ae rel U xc X ρ (k i H) Q E s->P (.int i)):P v:=
 @V.casesOn (fun v=>Ae rel U xc X ρ (vI v bad k H) Q E s->P v) v (fun h=>h.elim) (fun J h=>h.elim) f (fun J h=>h.elim) (fun J h=>h.elim) (fun J h=>h.elim) (fun h=>h.elim) hp
theorem Hx{v:V}{k:Nat->M α}{P:V->Prop}(hp:Ae rel U xc X ρ (vW v bad k H) Q E s)(f:∀i,Ae rel U xc X ρ (k i H) Q E s->P (.w i)):P v:=
 @V.casesOn (fun v=>Ae rel U xc X ρ (vW v bad k H) Q E s->P v) v (fun h=>h.elim) (fun J h=>h.elim) (fun J h=>h.elim) f (fun J h=>h.elim) (fun J h=>h.elim) (fun h=>h.elim) hp
theorem V9{v:V}{k:Nat->M α}{P:V->Prop}(hp:Ae rel U xc X ρ (vR v bad k H) Q E s)(f:∀i,Ae rel U xc X ρ (k i H) Q E s->P (.ref i)):P v:=
 @V.casesOn (fun v=>Ae rel U xc X ρ (vR v bad k H) Q E s->P v) v (fun h=>h.elim) (fun J h=>h.elim) (fun J h=>h.elim) (fun J h=>h.elim) (fun J h=>h.elim) f (fun h=>h.elim) hp
theorem Ei{a b:V}{k:Int->Int->M α}{P:V->V->Prop}(hp:Ae rel U xc X ρ (Ha a b k H) Q E s)(f:∀x y,Ae rel U xc X ρ (k x y H) Q E s->P (.int x) (.int y)):P a b:=
 E7 (P:=fun a=>P a b) hp fun x hp=>E7 (P:=P (.int x)) hp (f x)
theorem Ez{c:Af}{k:List V->M α}{P:Af->Prop}(hp:Ae rel U xc X ρ (cL c bad k H) Q E s)(f:∀i,Ae rel U xc X ρ (k i H) Q E s->P (.list i)):P c:=
 @Af.casesOn (fun c=>Ae rel U xc X ρ (cL c bad k H) Q E s->P c) c f (fun J h=>h.elim) (fun J h=>h.elim) (fun J h=>h.elim) (fun J h=>h.elim) (fun J J h=>h.elim) (fun h=>h.elim) hp
theorem Y7{c:Af}{k:List V->M α}{P:Af->Prop}(hp:Ae rel U xc X ρ (cT c bad k H) Q E s)(f:∀i,Ae rel U xc X ρ (k i H) Q E s->P (.tup i)):P c:=
 @Af.casesOn (fun c=>Ae rel U xc X ρ (cT c bad k H) Q E s->P c) c (fun J h=>h.elim) f (fun J h=>h.elim) (fun J h=>h.elim) (fun J h=>h.elim) (fun J J h=>h.elim) (fun h=>h.elim) hp
theorem Rc{c:Af}{k:List (Nat×V)->M α}{P:Af->Prop}(hp:Ae rel U xc X ρ (cD c bad k H) Q E s)(f:∀i,Ae rel U xc X ρ (k i H) Q E s->P (.dictW i)):P c:=
 @Af.casesOn (fun c=>Ae rel U xc X ρ (cD c bad k H) Q E s->P c) c (fun J h=>h.elim) (fun J h=>h.elim) f (fun J h=>h.elim) (fun J h=>h.elim) (fun J J h=>h.elim) (fun h=>h.elim) hp
theorem Td{c:Af}{k:Dz->List (Nat×V)->M α}{P:Af->Prop}(hp:Ae rel U xc X ρ (cN c bad k H) Q E s)(f:∀j i,Ae rel U xc X ρ (k j i H) Q E s->P (.inst j i)):P c:=
 @Af.casesOn (fun c=>Ae rel U xc X ρ (cN c bad k H) Q E s->P c) c (fun J h=>h.elim) (fun J h=>h.elim) (fun J h=>h.elim) (fun J h=>h.elim) (fun J h=>h.elim) f (fun h=>h.elim) hp
theorem CA{c:Prop}[Decidable c]{m:M α}{P:Prop}(hp:Ae rel U xc X ρ ((if c then m else bad) H) Q E s)(f:c->Ae rel U xc X ρ (m H) Q E s->P):P:=by
 by_cases h:c
 .rw [if_pos h]at hp;exact f h hp
 .rw [if_neg h]at hp;exact hp.elim
theorem Ae.as{γ δ:Type}{m:M γ}{g:γ->M δ}{h:δ->M α}(hp:Ae rel U xc X ρ (Mine.bnd (Mine.bnd m g) h H) Q E s):Ae rel U xc X ρ (Mine.bnd m (fun c=>Mine.bnd (g c) h) H) Q E s:=by
 unfold Mine.bnd at hp ⊢
 cases e:m H<;>rw[e]at hp<;>exact hp
theorem XI{γ:Type}{v:V}{k:Int->M γ}{g:γ->M α}{P:V->Prop}(hp:Ae rel U xc X ρ (Mine.bnd (vI v bad k) g H) Q E s)(f:∀i,Ae rel U xc X ρ (Mine.bnd (k i) g H) Q E s->P (.int i)):P v:=
 @V.casesOn (fun v=>Ae rel U xc X ρ (Mine.bnd (vI v bad k) g H) Q E s->P v) v (fun h=>h.elim) (fun J h=>h.elim) f (fun J h=>h.elim) (fun J h=>h.elim) (fun J h=>h.elim) (fun h=>h.elim) hp
theorem Lr{γ:Type}{v:V}{k:Nat->M γ}{g:γ->M α}{P:V->Prop}(hp:Ae rel U xc X ρ (Mine.bnd (vW v bad k) g H) Q E s)(f:∀i,Ae rel U xc X ρ (Mine.bnd (k i) g H) Q E s->P (.w i)):P v:=
 @V.casesOn (fun v=>Ae rel U xc X ρ (Mine.bnd (vW v bad k) g H) Q E s->P v) v (fun h=>h.elim) (fun J h=>h.elim) (fun J h=>h.elim) f (fun J h=>h.elim) (fun J h=>h.elim) (fun h=>h.elim) hp
theorem Q3{γ:Type}{c:Af}{k:List V->M γ}{g:γ->M α}{P:Af->Prop}(hp:Ae rel U xc X ρ (Mine.bnd (cL c bad k) g H) Q E s)(f:∀i,Ae rel U xc X ρ (Mine.bnd (k i) g H) Q E s->P (.list i)):P c:=
 @Af.casesOn (fun c=>Ae rel U xc X ρ (Mine.bnd (cL c bad k) g H) Q E s->P c) c f (fun J h=>h.elim) (fun J h=>h.elim) (fun J h=>h.elim) (fun J h=>h.elim) (fun J J h=>h.elim) (fun h=>h.elim) hp
theorem Sr{γ:Type}{v:V}{k:Nat->Af->M γ}{g:γ->M α}(hp:Ae rel U xc X ρ (Mine.bnd (Jz v k) g H) Q E s):∃a c,v=.ref a/\H[a]? =some c/\Ae rel U xc X ρ (Mine.bnd (k a c) g H) Q E s:=by
 cases v with
 | ref a=>exact Dl (o:=H[a]?) (Ae.as hp) fun c e hp=>⟨a,c,rfl,e,hp⟩
 | _=>exact hp.elim
theorem FW{γ:Type}{c:Prop}[Decidable c]{m:M γ}{g:γ->M α}{P:Prop}(hp:Ae rel U xc X ρ (Mine.bnd (if c then m else bad) g H) Q E s)(f:c->Ae rel U xc X ρ (Mine.bnd m g H) Q E s->P):P:=by
 by_cases h:c
 .rw [if_pos h]at hp;exact f h hp
 .rw [if_neg h]at hp;exact hp.elim
theorem Fg{o:Option α}{P:Prop}(hp:Ae rel U xc X ρ (Co o H) Q E s)(f:∀a,o=some a->Ae rel U xc X ρ (.ok a H) Q E s->P):P:=by
 cases o with
 | none=>exact hp.elim
 | some a=>exact f a rfl hp
end
theorem FI{α β:Type}{m:M α}{f:α->M β}{H H':MH}{a:α}(e:m H=.ok a H'):Mine.bnd m f H=f a H':=by unfold Mine.bnd;rw[e]
theorem GW{α β:Type}{m:M α}{f:α->M β}{H:MH}(e:m H=.bad):Mine.bnd m f H=.bad:=by unfold Mine.bnd;rw[e]
theorem Tu{H:MH}{a:Nat}{c:Af}(e:H[a]? =some c):B6 (.ref a) H=.ok c H:=by
 show Co H[a]? H=_
 rw[e];rfl
theorem C7{β:Type}{f:Af->M β}{H:MH}{a:Nat}{c:Af}(e:H[a]? =some c):Mine.bnd (B6 (.ref a)) f H=f c H:=FI (Tu e)
theorem Gw{β:Type}{f:Af->M β}{H:MH}{a:Nat}(e:H[a]? =none):Mine.bnd (B6 (.ref a)) f H=.bad:=by
 unfold Mine.bnd
 rw[show B6 (.ref a) H=.bad by show Co H[a]? H=_;rw[e];rfl]
theorem D3{i:Nat}{c:Af}(H:MH):(stays (.ref i) c H=.ok () H/\H[i]? =some c)\/stays (.ref i) c H=.bad:=by
 cases e:H[i]? with
 | none=>exact .inr (Gw e)
 | some c'=>
  by_cases q:c'=c
  .exact .inl ⟨(C7 e).trans (congrFun (if_pos q) H),congrArg some q⟩
  .exact .inr ((C7 e).trans (congrFun (if_neg q) H))
theorem Lv{β:Type}{f:List V->M β}{H:MH}{a:Nat}{xs:List V}(e:H[a]? =some (.list xs))(hl:xs.length<=BR):Mine.bnd (HJ (.ref a)) f H=f xs H:=FI ((C7 e).trans (congrFun (if_pos hl) H))
theorem MO{β:Type}{f:List (Nat×V)->M β}{H:MH}{a:Nat}{xs:List (Nat×V)}(e:H[a]? =some (.dictW xs))(hl:xs.length < 100):Mine.bnd (Mine.getD (.ref a)) f H=f xs H:=FI ((C7 e).trans (congrFun (if_pos hl) H))
theorem Ua{β:Type}{f:Af->M β}{v:V}{H:MH}:Mine.bnd (B6 v) f H=.bad\/∃a c,v=.ref a/\H[a]? =some c/\Mine.bnd (B6 v) f H=f c H:=by
 cases v with
 | ref a=>
  cases e:H[a]? with
  | none=>exact .inl (Gw e)
  | some c=>exact .inr ⟨a,c,rfl,e,C7 e⟩
 | _=>exact .inl rfl
theorem VY{α:Type}{c:Prop}[Decidable c]{m:M α}{H:MH}:(if c then m else bad) H=.bad\/(c/\(if c then m else bad) H=m H):=by
 by_cases h:c
 .exact .inr ⟨h,congrFun (if_pos h) H⟩
 .exact .inl (congrFun (if_neg h) H)
theorem Su{α:Type}{v:V}{k:Int->M α}{H:MH}:vI v bad k H=.bad\/∃i,v=.int i/\vI v bad k H=k i H:=by
 cases v with
 | int i=>exact .inr ⟨i,rfl,rfl⟩
 | _=>exact .inl rfl
theorem U6{β:Type}{f:List V->M β}{a:Nat}{c:Af}{H:MH}(e:H[a]? =some c):Mine.bnd (HJ (.ref a)) f H=.bad\/∃xs,c=.list xs/\xs.length<=BR/\Mine.bnd (HJ (.ref a)) f H=f xs H:=by
 cases c with
 | list xs=>
  by_cases h:xs.length<=BR
  .exact .inr ⟨xs,rfl,h,Lv e h⟩
  .exact .inl (GW ((C7 e).trans (congrFun (if_neg h) H)))
 | _=>exact .inl (GW (C7 e))
theorem U4{β:Type}{f:List (Nat×V)->M β}{v:V}{H:MH}:Mine.bnd (Mine.getD v) f H=.bad\/∃a xs,v=.ref a/\H[a]? =some (.dictW xs)/\xs.length < 100/\Mine.bnd (Mine.getD v) f H=f xs H:=by
 cases v with
 | ref a=>
  cases e:H[a]? with
  | none=>exact .inl (GW (Gw e))
  | some c=>cases c with
   | dictW xs=>
    by_cases h:xs.length < 100
    .exact .inr ⟨a,xs,rfl,e,h,MO e h⟩
    .exact .inl (GW ((C7 e).trans (congrFun (if_neg h) H)))
   | _=>exact .inl (GW (C7 e))
 | _=>exact .inl rfl
theorem W4{α β γ:Type}{m:M α}{g:α->M β}{h:β->M γ}{H:MH}:Mine.bnd (Mine.bnd m g) h H=Mine.bnd m (fun c=>Mine.bnd (g c) h) H:=by
 unfold Mine.bnd
 cases m H<;>rfl
theorem VR.refE{sa:Addr}{ρ:A8}{i:Nat}{x:Value}{P:Value->Prop}(h:VR sa ρ (.ref i) x)(f:∀p,ρ[i]? =some p->P (.ref p.1)):P x:=h.elim fun p q=>q.2▸f p q.1
theorem VR.intE{sa:Addr}{ρ:A8}{i:Int}{x:Value}{P:Value->Prop}(h:VR sa ρ (.int i) x)(f:∀t,P (.int i t)):P x:=h.elim fun t q=>q▸f t
theorem VR.wE{sa:Addr}{ρ:A8}{i:Nat}{x:Value}{P:Value->Prop}(h:VR sa ρ (.w i) x)(f:∀t,P (.str (wd i) t)):P x:=h.elim fun t q=>q▸f t
noncomputable abbrev Aq(U:Un):A8->V->Value->Prop:=VR U.sa
structure Cx(U:Un)(A:Around)(X:Fx)(Ad:PySem.Env)(n:Nat):Prop where
 B:∃A₀ outer,Below A₀ X.base outer X.G/\X.l=Ad::outer
 hA:A.frames=some X.l
 hf:Ad.frame=some X.L
 hk:Ad.scope.kind=.function
 hh:A.handled=none
 hd:A.depth+8 * n+8 < recursionLimit
 hu:A.units+200 * n+800 < cLine
 gf:GF U X.G
theorem VR.handed{sa:Addr}{ρ:A8}{v:V}{x:Value}(h:VR sa ρ v x):handedIn x=true:=by
 cases v<;>simp only [VR]at h
 all_goals first | (subst h;rfl) | (obtain⟨t,rfl⟩:=h;rfl) | (obtain⟨p,_,rfl⟩:=h;rfl)
set_option tactic.hygienic true in
theorem J8.get{sa:Addr}{ρ:A8}{a:Nat}{v:V}:∀{fs:List (Nat×V)} {es:List DictEntry},J8 sa ρ fs es->Do a fs=some v->∃x,getL (wd a) es=some (some x)/\VR sa ρ v x
 | [],_,_,e=>by cases e
 | _::_,[],x,_=>x.elim
 | p::r,e::es,⟨⟨t,hk⟩,hv,hr⟩,he=>by
  unfold Do at he
  unfold getL
  rw[List.find?_cons]
  have hs:e.key.isStr (wd a)=(wd p.1==wd a):=by rw[hk];rfl
  rw[hs,Ou]
  by_cases h:p.1=a
  .rw [if_pos h]at he
   rw[beq_iff_eq.mpr h]
   cases he
   exact⟨_,rfl,hv⟩
  .rw [if_neg h]at he
   rw[beq_eq_false_iff_ne.mpr h]
   obtain⟨x,g,w⟩:=hr.get he
   unfold getL at g
   refine⟨x,?_,w⟩
   dsimp only
   split at g
   .rename_i e' q;rw[q];exact g
   .split at g<;>cases g
theorem J8.some{sa:Addr}{ρ:A8}{a:Nat}:∀{fs:List (Nat×V)} {es:List DictEntry},J8 sa ρ fs es->(getL (wd a) es).isSome=true:=by
 intro fs es h
 have nr:es.any (·.refKey)=false:=by
  induction fs generalizing es with
  | nil=>cases es with
   | nil=>rfl
   | cons _ _=>exact h.elim
  | cons p r ih=>cases es with
   | nil=>exact h.elim
   | cons e es=>
    obtain⟨⟨t,hk⟩,_,hr⟩:=h
    rw[List.any_cons,ih hr]
    simp[DictEntry.refKey,hk]
 unfold getL
 split
 .rfl
 .rw [nr];rfl
theorem J8.put{sa:Addr}{ρ:A8}{a:Nat}{v:V}{x:Value}{hs:Int}{t:Tok}(hv:VR sa ρ v x):∀{fs:List (Nat×V)} {es:List DictEntry},J8 sa ρ fs es->J8 sa ρ (ET a v fs) (putL (wd a) hs (.str (wd a) t) x es)
 | [],[],_=>⟨⟨t,rfl⟩,hv,trivial⟩
 | [],_::_,h=>h.elim
 | _::_,[],h=>h.elim
 | p::r,e::es,⟨⟨u,hk⟩,hw,hr⟩=>by
  have hs':e.key.isStr (wd a)=(wd p.1==wd a):=by rw[hk];rfl
  unfold ET putL
  rw[hs',Ou]
  by_cases h:p.1=a
  .rw [if_pos h,if_pos (beq_iff_eq.mpr h)]
   exact⟨⟨u,by rw[hk,h]⟩,hv,hr⟩
  .rw [if_neg h,if_neg (by rw[beq_eq_false_iff_ne.mpr h];decide)]
   exact⟨⟨u,hk⟩,hw,J8.put hv hr⟩
theorem J8.length{sa:Addr}{ρ:A8}:∀{fs:List (Nat×V)} {es:List DictEntry},J8 sa ρ fs es->es.length=fs.length
 | [],[],_=>rfl
 | [],_::_,h=>h.elim
 | _::_,[],h=>h.elim
 | _::_,_::_,⟨_,_,h⟩=>congrArg (·+1) h.length
theorem MW(nm:Str)(hs:Int)(k v:Value):∀es:List DictEntry,(putL nm hs k v es).length<=es.length+1
 | []=>Nat.le_refl _
 | e::es=>by
  unfold putL
  split
  .simp
  .have:=MW nm hs k v es;simp;exact this
variable{A:Around}{Ad:PySem.Env}{n:Nat}{Q:Value->Shared->Prop}
inductive Zs(U:Un)(X:Fx)(ρ:A8)(H:MH)(h:Heap)(i:Nat)(k:Dz)(fs:List (Nat×V))(p:Addr×Addr):Prop
 | mk (es:List DictEntry) (nd:Nat) (news:Nat->List DictEntry->List (Addr×Obj)) (N:News X.G X.L h (news nd es)) (m1:(p.1,instObj (U.cls k) p.2) ∈ news nd es) (m2:(p.2,W.dictOf es nd) ∈ news nd es) (hw:J8 U.sa ρ fs es)
  (up:∀n' es',W.Upd p.2 (W.dictOf es nd) (W.dictOf es' n') (news nd es) (news n' es')) (back:∀fs' n' es' h',J8 U.sa ρ fs' es'->Fr X.G X.L h' X.m->News X.G X.L h' (news n' es')->AL U X ρ (H.set i (.inst k fs')) h'):Zs U X ρ H h i k fs p
theorem FS.pN(x:AL U X ρ H s.heap){i:Nat}{k:Dz}{fs:List (Nat×V)}{p:Addr×Addr}(ep:ρ[i]? =some p)(hc:H[i]? =some (.inst k fs)):Zs U X ρ H s.heap i k fs p:=by
 obtain⟨ad,nn,pre,post,e1,⟨es,nd,rfl,hw⟩,N,D,lo,_,back⟩:=x.cell hc
 cases ep.symm.trans e1
 have e3:∀(n:Nat) (es:List DictEntry),pre++[(p.1,instObj (U.cls k) p.2),(p.2,W.dictOf es n)]++post=(pre++[(p.1,instObj (U.cls k) p.2)])++(p.2,W.dictOf es n)::post:=fun n es=>by simp
 refine⟨es,nd,fun n es=>pre++[(p.1,instObj (U.cls k) p.2),(p.2,W.dictOf es n)]++post,N,B1 _ (C9 _ (.head _)),B1 _ (C9 _ (.tail _ (.head _))),hw,fun n' es'=> ?_,fun fs' n' es' h' w F N'=>back _ _ h' F N' rfl ⟨_,_,rfl,w⟩⟩
 rw[e3,e3]
 rw[e3]at D
 exact Nk D
theorem MC(uf:UF U)(cx:Cx U A X Ad n)(x:AL U X ρ H s.heap){o:V}{o':Value}{a:Nat}{ex:Bool}(ha:a ∈ CV)(ho:Aq U ρ o o')
  (hp:Ae (Aq U) U xc X ρ (Tv o a H) Q E s):wpAny (model U.prog U.w) A (getAttr o' (wd a) ex) Q E s:=by
 refine Bu (P:=fun o=>Aq U ρ o o'->_) hp (fun i c hc hp=> ?_) ho
 refine Td (P:=fun c=>H[i]? =some c->_) hp (?_:_) hc
 refine fun k fs hp hc ho=>Fg hp fun v hl hp=> ?_
 refine VR.refE (P:=fun y=>wpAny _ _ (getAttr y _ _) _ _ _) ho fun p ep=> ?_
 obtain⟨es,nd,news,N,m1,m2,hw,_,_⟩:=x.pN ep hc
 obtain⟨y,g,hy⟩:=hw.get hl
 have ao:=uf.attr k a ha
 obtain⟨attr,ao3,ao4⟩:=ao.find
 exact get_own x.fr cx.gf.K (W.InstAt.of_news N m1 m2) ao.plain (uf.dict k) ao3 ao4 g hy.handed (hp ρ y s.heap _ (BE _) x hy)
theorem Mt(uf:UF U)(cx:Cx U A X Ad n)(x:AL U X ρ H s.heap){o v:V}{o' v':Value}{a:Nat}(ha:a ∈ CV)(ho:Aq U ρ o o')(hv:Aq U ρ v v'){Q:Unit->Shared->Prop}
  (hp:Ae (fun J J J=>True) U xc X ρ (IB o a v H) Q E s):wpAny (model U.prog U.w) A (setAttr o' (wd a) v') Q E s:=by
 refine FB (P:=fun o=>Aq U ρ o o'->_) hp (fun i c hc hp=> ?_) ho
 refine Td (P:=fun c=>H[i]? =some c->_) hp (?_:_) hc
 refine fun k fs hp hc ho=>CA hp fun Ba hp=> ?_
 refine VR.refE (P:=fun y=>wpAny _ _ (setAttr y _ _) _ _ _) ho fun p ep=> ?_
 obtain⟨es,nd,news,N,m1,m2,hw,up,back⟩:=x.pN ep hc
 refine set_dict x.fr cx.gf.K N (W.InstAt.of_news N m1 m2) rfl (uf.seta k) (uf.over k) (uf.attr k a ha).taker (uf.dict k) hw.some rfl (up _ _) ?_ fun h' F' N'=>hp ρ () h' _ (BE _) (back _ _ _ h' (hw.put hv) F' N') trivial
 have h1:=MW (wd a) (PyData.keyHash U.w.params (wd a)) (.str (wd a) (s.toks+1)) v' es
 have h2:=hw.length
 clear up back hp N
 exact Nat.le_of_lt (qY ‹_› h2 (Nat.le_of_lt ‹_›) (by rfl))
end
theorem C1.length{sa:Addr}{ρ:A8}:∀{vs:List V} {xs:List Value},C1 sa ρ vs xs->xs.length=vs.length
 | [],[],_=>rfl
 | _::_,_::_,⟨_,h⟩=>congrArg (·+1) h.length
 | [],_::_,h=>h.elim
 | _::_,[],h=>h.elim
theorem C1.get{sa:Addr}{ρ:A8}:∀{vs:List V} {xs:List Value} {k:Nat} {v:V},C1 sa ρ vs xs->vs[k]? =some v->∃x,xs[k]? =some x/\VR sa ρ v x
 | [],[],_,_,_,e=>by simp at e
 | v::_,x::_,0,_,⟨a,_⟩,e=>by simp at e;subst e;exact⟨x,rfl,a⟩
 | _::_,_::_,k+1,_,⟨_,b⟩,e=>by rw[List.getElem?_cons_succ]at e;rw[List.getElem?_cons_succ];exact b.get e
 | [],_::_,_,_,h,_=>h.elim
 | _::_,[],_,_,h,_=>h.elim
theorem C1.append{sa:Addr}{ρ:A8}{ws:List V}{ys:List Value}:∀{vs:List V} {xs:List Value},C1 sa ρ vs xs->C1 sa ρ ws ys->C1 sa ρ (vs++ws) (xs++ys)
 | [],[],_,q=>q
 | _::_,_::_,⟨a,h⟩,q=>⟨a,C1.append h q⟩
 | [],_::_,h,_=>h.elim
 | _::_,[],h,_=>h.elim
theorem C1.one{sa:Addr}{ρ:A8}{v:V}{x:Value}(h:VR sa ρ v x):C1 sa ρ [v] [x]:=⟨h,trivial⟩
theorem C1.reverse{sa:Addr}{ρ:A8}:∀{vs:List V} {xs:List Value},C1 sa ρ vs xs->C1 sa ρ vs.reverse xs.reverse
 | [],[],_=>trivial
 | _::_,_::_,⟨a,h⟩=>by rw[List.reverse_cons,List.reverse_cons];exact h.reverse.append (.one a)
 | [],_::_,h=>h.elim
 | _::_,[],h=>h.elim
theorem C1.take{sa:Addr}{ρ:A8}:∀{vs:List V} {xs:List Value} (k:Nat),C1 sa ρ vs xs->C1 sa ρ (vs.take k) (xs.take k)
 | _,_,0,_=>trivial
 | [],[],_+1,_=>trivial
 | _::_,_::_,k+1,⟨a,h⟩=>⟨a,h.take k⟩
 | [],_::_,_,h=>h.elim
 | _::_,[],_,h=>h.elim
theorem C1.drop{sa:Addr}{ρ:A8}:∀{vs:List V} {xs:List Value} (k:Nat),C1 sa ρ vs xs->C1 sa ρ (vs.drop k) (xs.drop k)
 | _,_,0,h=>h
 | [],[],_+1,_=>trivial
 | _::_,_::_,k+1,⟨_,h⟩=>h.drop k
 | [],_::_,_,h=>h.elim
 | _::_,[],_,h=>h.elim
theorem C1.set{sa:Addr}{ρ:A8}{v:V}{x:Value}(q:VR sa ρ v x):∀{vs:List V} {xs:List Value} (k:Nat),C1 sa ρ vs xs->C1 sa ρ (vs.set k v) (xs.set k x)
 | [],[],_,_=>trivial
 | _::_,_::_,0,⟨_,h⟩=>⟨q,h⟩
 | _::_,_::_,k+1,⟨a,h⟩=>⟨a,h.set q k⟩
 | [],_::_,_,h=>h.elim
 | _::_,[],_,h=>h.elim
theorem C1.replicate{sa:Addr}{ρ:A8}{v:V}{x:Value}(q:VR sa ρ v x):∀k:Nat,C1 sa ρ (List.replicate k v) (List.replicate k x)
 | 0=>trivial
 | k+1=>⟨q,C1.replicate q k⟩
theorem C1.dropLast{sa:Addr}{ρ:A8}:∀{vs:List V} {xs:List Value},C1 sa ρ vs xs->C1 sa ρ vs.dropLast xs.dropLast
 | [],[],_=>trivial
 | [_],[_],_=>trivial
 | v::w::vs,x::y::xs,⟨a,h⟩=>by rw[List.dropLast_cons_cons,List.dropLast_cons_cons];exact⟨a,h.dropLast⟩
 | [_],_::_::_,h=>h.2.elim
 | _::_::_,[_],h=>h.2.elim
 | [],_::_,h=>h.elim
 | _::_,[],h=>h.elim
theorem Gf.look{sa:Addr}{ρ:A8}{k:Nat}:∀{kvs:List (Nat×V)} {es:List (Str×Value)},Gf sa ρ kvs es->(Do k kvs=none->valueAt es (wd k)=none)/\∀v,Do k kvs=some v->∃x,valueAt es (wd k)=some x/\VR sa ρ v x
 | [],[],_=>⟨fun J=>rfl,fun J e=>by cases e⟩
 | [],_::_,h=>h.elim
 | _::_,[],h=>h.elim
 | p::r,e::es,⟨h1,h2,h3⟩=>by
  have ih:=h3.look (k:=k)
  unfold Do
  have hv:valueAt (e::es) (wd k)=if wd p.1=wd k then some e.2 else valueAt es (wd k):=by
   obtain⟨ek,ev⟩:=e
   dsimp only at h1
   subst h1
   show(List.find? _ _).map _=_
   rw[List.find?_cons]
   by_cases q:wd p.1=wd k
   .simp [q]
   .simp [q,valueAt]
  rw[hv]
  by_cases q:p.1=k
  .subst q
   simp only [if_true]
   exact⟨fun e=>by(cases e),fun v e=>by cases e;exact⟨_,rfl,h2⟩⟩
  .have q':¬wd p.1=wd k:=fun e=>q (N8 e)
   rw[if_neg q,if_neg q']
   exact ih
section
variable{A:Around}{s:Shared}
theorem WX{a:Addr}(h:(a==sysModules)=false):decide ((a==sysModules)=true)=false:=by rw[h];rfl
theorem EP{prog:Program}{w:World}{E:Value->Shared->Prop}{Q:Unit->Shared->Prop}{a:Addr}(h:(a==sysModules)=false)(k:Q () s):wpAny (model prog w) A (Builtin.Dict.showsAll a) Q E s:=
 wpAny_ite_false (WX h) (BH k)
theorem JF{prog:Program}{w:World}{E:Value->Shared->Prop}{Q:Bool->Shared->Prop}{nm:String}{a b:Addr}{oa ob:Obj}{ea eb:Nat}(la:(a==sysModules)=false)(lb:(b==sysModules)=false)
  (ha:s.heap.get? a=some oa) (hb:s.heap.get? b=some ob) (da:oa.data=.dict #[] ea) (db:ob.data=.dict #[] eb) (h:Q true s):
  wpAny (model prog w) A (Builtin.Dict.samePairs nm a b) Q E s:=by
 refine As (EP la (As (EP lb (As (wpAny_dictEntries ha da (As (wpAny_dictEntries hb db (wpAny_ite_false rfl (As (wpAny_dictEpoch ha da (As ?_)))))))))))
 rw[Std.Legacy.Range.forIn_eq_forIn_range']
 exact BH (BH h)
theorem U5{prog:Program}{w:World}{E:Value->Shared->Prop}{β:Type}{Q:β->Shared->Prop}{f:Nat->β->Sem (ForInStep β)}{b:β}{k:β}(h:wpAny (model prog w) A (f 0 b) (fun r s=>r=.yield k/\Q k s) E s):wpAny (model prog w) A (forIn [:1] b f) Q E s:=by
 rw[Std.Legacy.Range.forIn_eq_forIn_range']
 show wpAny _ _ (forIn [0] _ _) _ _ _
 rw[List.forIn_cons]
 refine As (wpAny_mono h (fun r s h=> ?_) fun J J h=>h)
 cases h.1
 exact BH h.2
theorem M5{prog:Program}{w:World}{E:Value->Shared->Prop}{Q:Bool->Shared->Prop}{b:Addr}{ob:Obj}{eb:Nat}{x y:DictEntry}{k:Str}{t u:Tok}
  (hb:s.heap.get? b=some ob) (db:ob.data=.dict #[y] eb) (hx:x.key=.str k t) (hy:y.key=.str k u) (he:EqAt A s x.val y.val true) (h:Q true s):
  wpAny (model prog w) A (holding [x.key,x.val] do
   let some j <-dictFind b x.key x.hash | pure false
   let some f:=(<-dictEntries b)[j]? | unsupported "internal:dict-equal"
   holding [f.val] (eqBool x.val f.val)) Q E s:=by
 rw[hx]
 refine wpAny_holding (As (PyProof.Rows.KTD.kt_dictFind_strs hb db (by simp[hy,isExactStrKey]) ?_))
 rw[show(#[y].findIdx? fun e=>e.key.isStr k)=some 0 by simp[hy,Value.isStr]]
 exact As (wpAny_dictEntries hb db (wpAny_holding (he prog w _ _ h)))
theorem JC{prog:Program}{w:World}{E:Value->Shared->Prop}{Q:Bool->Shared->Prop}{nm:String}{a b:Addr}{oa ob:Obj}{ea eb:Nat}{x y:DictEntry}{k:Str}{t u:Tok}(la:(a==sysModules)=false)(lb:(b==sysModules)=false)
  (ha:s.heap.get? a=some oa) (hb:s.heap.get? b=some ob) (da:oa.data=.dict #[x] ea) (db:ob.data=.dict #[y] eb) (hx:x.key=.str k t) (hy:y.key=.str k u) (he:EqAt A s x.val y.val true) (h:Q true s):
  wpAny (model prog w) A (Builtin.Dict.samePairs nm a b) Q E s:=by
 refine As (EP la (As (EP lb (As (wpAny_dictEntries ha da (As (wpAny_dictEntries hb db (wpAny_ite_false rfl (As (wpAny_dictEpoch ha da (As (U5 (k:=(none,())) (As (wpAny_dictEntries ha da ?_))))))))))))))
 show wpAny _ _ (holding [x.key,x.val] _ >>= _) _ _ _
 refine As (M5 hb db hx hy he (wpAny_ite_false rfl (As (wpAny_dictEpoch ha da (wpAny_ite_false ?_ (BH ⟨rfl,BH h⟩))))))
 exact decide_eq_false fun e=>by rw[bne_self_eq_false]at e;exact Bool.false_ne_true e
theorem Pr{a b:Addr}{oa ob:Obj}(ha:s.heap.get? a=some oa)(hb:s.heap.get? b=some ob)(ca:oa.cls=.type "dict")(cb:ob.cls=.type "dict")(hu:A.units < cLine)
  (hp:∀(prog:Program) (w:World) (E:Value->Shared->Prop) (Q:Bool->Shared->Prop) (nm:String),Q true s->wpAny (model prog w) A.in1 (Builtin.Dict.samePairs nm a b) Q E s):
  RcAt A s (.ref a) (.ref b) true/\RcNeAt A s (.ref a) (.ref b) false:=by
 have ta:s.TypeIs (.ref a) "dict":=⟨oa,ha,ca⟩
 have tb:s.TypeIs (.ref b) "dict":=⟨ob,hb,cb⟩
 constructor
 .intro prog w E Q h
  refine wpAny_richCompare_same_room (op:= .Eq) ta tb PySem.F.slot_dict_eq (wpAny_call_entry PySem.F.slot_dict_eq ta PySem.F.entry_dict_eq ?_ (PySem.F.args_dict_eq_2 _ _)) hu
  show wpAny _ _ (Builtin.Dict.dictSlotArgs "__eq__" ⟨[.ref a,.ref b],[]⟩ >>= _) _ _ s
  refine As ?_
  unfold Builtin.Dict.dictSlotArgs
  refine As (wpAny_notOrdered_dict ta ?_)
  show wpAny _ _ (pure (Value.ref a,Value.ref b)) _ _ s
  refine BH ?_
  refine As (wpAny_isInstance (T:="dict") tb PySem.F.sub_dict_dict ?_)
  simp only [Bool.not_true,Bool.false_eq_true,if_false]
  refine As (BH (As (BH ?_)))
  refine As (hp prog w _ _ _ ?_)
  refine BH ⟨_,rfl,?_,?_⟩
  .exact fun x=>nomatch x
  .simpa using h
 .intro prog w E Q h
  refine wpAny_richCompare_same_room (op:= .NotEq) ta tb PySem.F.slot_dict_ne (wpAny_call_entry PySem.F.slot_dict_ne ta PySem.F.entry_dict_ne ?_ (PySem.F.args_dict_ne_2 _ _)) hu
  show wpAny _ _ (Builtin.Dict.dictSlotArgs "__ne__" ⟨[.ref a,.ref b],[]⟩ >>= _) _ _ s
  refine As ?_
  unfold Builtin.Dict.dictSlotArgs
  refine As (wpAny_notOrdered_dict ta ?_)
  show wpAny _ _ (pure (Value.ref a,Value.ref b)) _ _ s
  refine BH ?_
  refine As (wpAny_isInstance (T:="dict") tb PySem.F.sub_dict_dict ?_)
  simp only [Bool.not_true,Bool.false_eq_true,if_false]
  refine As (BH (As (BH ?_)))
  refine As (hp prog w _ _ _ ?_)
  refine BH ⟨_,rfl,?_,?_⟩
  .exact fun x=>nomatch x
  .simpa using h
end
section
variable{U:Un}{X:Fx}{ρ:A8}{H:MH}{s:Shared}
theorem Ms(p:Addr×Obj)(pre post:List (Addr×Obj)):p ∈ pre++[p]++post:=B1 _ (C9 _ (.head _))
noncomputable def At(U:Un)(ρ:A8)(c:Af)(h:Heap)(a:Addr):Prop:=match c with
 | .list xs=>∃vs,h.IsList a (List.toArray vs)/\C1 U.sa ρ xs vs
 | .tup xs=>∃vs,h.IsTuple a (List.toArray vs)/\C1 U.sa ρ xs vs
 | .dictW kvs=>∃o es,h.get? a=some o/\o.IsDictOf (PySem.strKind U.prog U.w) es/\Gf U.sa ρ kvs es
 | .dictP kvs=>∃o es,h.get? a=some o/\o.IsDictOf (PySem.strKind U.prog U.w) es/\Gf U.sa ρ kvs es/\U.pin a=some o
 | _=>True
inductive FS.atI(U:Un)(ρ:A8)(s:Shared)(i:Nat)(c:Af):Prop
 | mk (a:_) (q0:ρ[i]? =some a) (q1:3 < a.1) (q2:At U ρ c s.heap a.1):FS.atI U ρ s i c
theorem FS.at(x:AL U X ρ H s.heap){i:Nat}{c:Af}(e:H[i]? =some c):FS.atI U ρ s i c:=by
 obtain⟨a,n,pre,post,e1,y,N,D,lo,_⟩:=x.cell e
 refine⟨a,e1,?_,?_⟩
 .cases c with
  | list xs=>obtain⟨vs,k,rfl,_⟩:=y;exact lo _ (.head _)
  | tup xs=>obtain⟨vs,rfl,_⟩:=y;exact lo _ (.head _)
  | dictW xs=>obtain⟨vs,k,rfl,_⟩:=y;exact lo _ (.head _)
  | dictP xs=>obtain⟨vs,k,rfl,_⟩:=y;exact lo _ (.head _)
  | dictI xs=>obtain⟨vs,k,rfl,_⟩:=y;exact lo _ (.head _)
  | inst k xs=>obtain⟨vs,k,rfl,_⟩:=y;exact lo _ (.head _)
  | tab=>obtain⟨vs,k,rfl,_⟩:=y;exact lo _ (.head _)
 .cases c with
  | list xs=>obtain⟨vs,k,rfl,v⟩:=y;exact⟨vs,⟨_,N.get (Ms _ _ _),rfl,k,rfl⟩,v⟩
  | tup xs=>obtain⟨vs,rfl,v⟩:=y;exact⟨vs,⟨_,N.get (Ms _ _ _),rfl,0,rfl⟩,v⟩
  | dictW xs=>obtain⟨o,es,rfl,d,v⟩:=y;exact⟨o,es,N.get (by simp),d,v⟩
  | dictP xs=>obtain⟨o,es,rfl,d,v⟩:=y;exact⟨o,es,N.get (by simp),d,v⟩
  | _=>trivial
inductive bG(sa:Addr)(ρ:A8)(h:Heap)(xs:List V)(a:Addr):Prop
 | mk (vs:List Value) (il:h.IsList a (List.toArray vs)) (vv:C1 sa ρ xs vs) (lo:3 < a):bG sa ρ h xs a
inductive bB(sa:Addr)(ρ:A8)(h:Heap)(xs:List V)(a:Addr):Prop
 | mk (vs:List Value) (il:h.IsTuple a (List.toArray vs)) (vv:C1 sa ρ xs vs) (lo:3 < a):bB sa ρ h xs a
inductive YL(U:Un)(ρ:A8)(h:Heap)(kvs:List (Nat×V))(a:Addr):Prop
 | mk (o:Obj) (es:List (Str×Value)) (ho:h.get? a=some o) (hd:o.IsDictOf (PySem.strKind U.prog U.w) es) (vv:Gf U.sa ρ kvs es) (lo:3 < a):YL U ρ h kvs a
section
variable{i:Nat}{p:Addr×Addr}
theorem FS.pt{c:Af}(x:AL U X ρ H s.heap)(ep:ρ[i]? =some p)(hc:H[i]? =some c):3 < p.1/\At U ρ c s.heap p.1:=by
 obtain⟨a,e1,lo,y⟩:=x.at hc
 cases ep.symm.trans e1
 exact⟨lo,y⟩
theorem FS.pL{xs:List V}(x:AL U X ρ H s.heap)(ep:ρ[i]? =some p)(hc:H[i]? =some (.list xs)):bG U.sa ρ s.heap xs p.1:=(x.pt ep hc).elim fun lo y=>y.elim fun vs y=>⟨vs,y.1,y.2,lo⟩
theorem FS.pT{xs:List V}(x:AL U X ρ H s.heap)(ep:ρ[i]? =some p)(hc:H[i]? =some (.tup xs)):bB U.sa ρ s.heap xs p.1:=(x.pt ep hc).elim fun lo y=>y.elim fun vs y=>⟨vs,y.1,y.2,lo⟩
theorem FS.pD{kvs:List (Nat×V)}(x:AL U X ρ H s.heap)(ep:ρ[i]? =some p)(hc:H[i]? =some (.dictW kvs)):YL U ρ s.heap kvs p.1:=(x.pt ep hc).elim fun lo y=>y.elim fun o y=>y.elim fun es y=>⟨o,es,y.1,y.2.1,y.2.2,lo⟩
theorem FS.pP{kvs:List (Nat×V)}(x:AL U X ρ H s.heap)(ep:ρ[i]? =some p)(hc:H[i]? =some (.dictP kvs)):YL U ρ s.heap kvs p.1:=(x.pt ep hc).elim fun lo y=>y.elim fun o y=>y.elim fun es y=>⟨o,es,y.1,y.2.1,y.2.2.1,lo⟩
end
theorem Dt{a:Addr}(h:3 < a):(a==sysModules)=false:=beq_eq_false_iff_ne.mpr (fun e=>by subst e;exact absurd h (by decide))
theorem MZ(n:Nat):(List.range n).all (fun J=>true)=true:=by simp
noncomputable def HM(A:Around)(s:Shared)(a b:Value):Prop:=EqAt A s a b true/\RcAt A s a b true/\RcNeAt A s a b false
theorem Kg{A:Around}{a b:Addr}{t:Bool}(h:RcAt A s (.ref a) (.ref b) t)(hs:a=b->t=true):EqAt A s (.ref a) (.ref b) t:=by
 by_cases e:a=b
 .rw [hs e];subst e;exact .same _
 .exact .of_refs e h
theorem Qa{A:Around}{a b:Addr}(h:RcAt A s (.ref a) (.ref b) true/\RcNeAt A s (.ref a) (.ref b) false):HM A s (.ref a) (.ref b):=⟨Kg h.1 fun J=>rfl,h⟩
theorem PD{A:Around}(i:Bool):HM A s (.bool i) (.bool i):=by
 have e1:=EqAt.bool_bool (A:=A) (s:=s) i i
 have e2:=RcAt.bool_bool (A:=A) (s:=s) i i
 have e3:=RcNeAt.bool_bool (A:=A) (s:=s) i i
 rw[beq_self_eq_true]at e1 e2 e3
 exact⟨e1,e2,e3⟩
theorem Rz{A:Around}(i:Int)(t u:Tok):HM A s (.int i t) (.int i u):=by
 have e1:=EqAt.int_int (A:=A) (s:=s) i t i u
 have e2:=RcAt.int_int (A:=A) (s:=s) i t i u
 have e3:=RcNeAt.int_int (A:=A) (s:=s) i t i u
 rw[beq_self_eq_true]at e1 e2 e3
 exact⟨e1,e2,e3⟩
theorem IK{A:Around}(i:Str)(t u:Tok):HM A s (.str i t) (.str i u):=by
 have e1:=EqAt.str_str (A:=A) (s:=s) i t i u
 have e2:=RcAt.str_str (A:=A) (s:=s) i t i u
 have e3:=RcNeAt.str_str (A:=A) (s:=s) i t i u
 rw[beq_self_eq_true]at e1 e2 e3
 exact⟨e1,e2,e3⟩
theorem IN{U:Un}{o:Obj}{es:List (Str×Value)}(h:o.IsDictOf (PySem.strKind U.prog U.w) es)(e:es=[]):o.cls=.type "dict"/\∃ep,o.data=.dict #[] ep:=by
 obtain⟨xs,ep,ex,d,_,p,_⟩:=h
 subst e
 have:xs.toList=[]:=by cases q:xs.toList with | nil=>rfl | cons _ _=>rw[q]at p;cases p
 have:xs=#[]:=Array.ext' this
 subst this
 exact⟨ex.1,ep,d⟩
inductive HH(o:Obj)(k:Str)(v:Value):Prop
 | mk (ep:_) (x:_) (t:_) (q0:o.data=.dict #[x] ep) (q1:x.key=.str k t) (q2:x.val=v):HH o k v
theorem IY{U:Un}{o:Obj}{k:Str}{v:Value}(h:o.IsDictOf (PySem.strKind U.prog U.w) [(k,v)]):o.cls=.type "dict"/\HH o k v:=by
 obtain⟨xs,ep,ex,d,_,p,_⟩:=h
 obtain⟨l⟩:=xs
 have p':Pairs (PySem.strKind U.prog U.w) l [(k,v)]:=p
 cases p' with
 | cons hk hv hr=>
  cases hr
  obtain⟨t,ht⟩:=Value.isStrOf_shape hk
  exact⟨ex.1,ep,_,t,d,ht,hv⟩
theorem AK{P:Prop}(h:false=true):P:=nomatch h
theorem cA{v:V}{k:Bool->Bool}{P:V->Prop}(h:vB v false k=true)(f:∀i,k i=true->P (.bool i)):P v:=
 @V.casesOn (fun v=>vB v false k=true->P v) v AK f (fun J=>AK) (fun J=>AK) (fun J=>AK) (fun J=>AK) AK h
theorem dW{v:V}{k:Int->Bool}{P:V->Prop}(h:vI v false k=true)(f:∀i,k i=true->P (.int i)):P v:=
 @V.casesOn (fun v=>vI v false k=true->P v) v AK (fun J=>AK) f (fun J=>AK) (fun J=>AK) (fun J=>AK) AK h
theorem eE{v:V}{k:Nat->Bool}{P:V->Prop}(h:vW v false k=true)(f:∀i,k i=true->P (.w i)):P v:=
 @V.casesOn (fun v=>vW v false k=true->P v) v AK (fun J=>AK) (fun J=>AK) f (fun J=>AK) (fun J=>AK) AK h
theorem eJ{v:V}{k:Nat->Bool}{P:V->Prop}(h:vR v false k=true)(f:∀i,k i=true->P (.ref i)):P v:=
 @V.casesOn (fun v=>vR v false k=true->P v) v AK (fun J=>AK) (fun J=>AK) (fun J=>AK) (fun J=>AK) f AK h
theorem cO{c:Af}{k:List V->Bool}{P:Af->Prop}(h:cL c false k=true)(f:∀i,k i=true->P (.list i)):P c:=
 @Af.casesOn (fun c=>cL c false k=true->P c) c f (fun J=>AK) (fun J=>AK) (fun J=>AK) (fun J=>AK) (fun J J=>AK) AK h
theorem bX{c:Af}{k:List V->Bool}{P:Af->Prop}(h:cT c false k=true)(f:∀i,k i=true->P (.tup i)):P c:=
 @Af.casesOn (fun c=>cT c false k=true->P c) c (fun J=>AK) f (fun J=>AK) (fun J=>AK) (fun J=>AK) (fun J J=>AK) AK h
theorem dX{c:Af}{k:List (Nat×V)->Bool}{P:Af->Prop}(h:cD c false k=true)(f:∀i,k i=true->P (.dictW i)):P c:=
 @Af.casesOn (fun c=>cD c false k=true->P c) c (fun J=>AK) (fun J=>AK) f (fun J=>AK) (fun J=>AK) (fun J J=>AK) AK h
theorem Xj{o:Option Af}{k:Af->Bool}{P:Prop}(h:oC o k=true)(f:∀c,o=some c->k c=true->P):P:=by
 cases o with
 | none=>exact AK h
 | some c=>exact f c rfl h
noncomputable def DS(U:Un)(ρ:A8)(s:Shared)(H:MH)(n:Nat):Prop:=∀(a b:V) (a' b':Value) (A:Around),Kb n H a b=true->VR U.sa ρ a a'->VR U.sa ρ b b'->A.units+n < cLine->HM A s a' b'
noncomputable def Yk(U:Un)(ρ:A8)(s:Shared)(H:MH)(n:Nat):Prop:=∀(as bs:List V) (as' bs':List Value) (A:Around),Jw n H as bs=true->C1 U.sa ρ as as'->C1 U.sa ρ bs bs'->A.units+n < cLine->as'.length=bs'.length/\∀j (h1:j < as'.length) (h2:j < bs'.length),EqAt A s as'[j] bs'[j] true
section
variable{n:Nat}{A:Around}
theorem EU(h:A.units+(n+1) < cLine):A.in1.units+n < cLine/\A.units < cLine:=⟨by show A.units+1+n < _;exact qP ‹_›,by exact qR ‹_›⟩
theorem Tf{xs ys:List V}{a b:Addr}(ds:Yk U ρ s H n)(aa:bG U.sa ρ s.heap xs a)(ab:bG U.sa ρ s.heap ys b)(h:Jw n H xs ys=true)(hu:A.units+(n+1) < cLine):RcAt A s (.ref a) (.ref b) true/\RcNeAt A s (.ref a) (.ref b) false:=by
 obtain⟨vs,il,vv,_⟩:=aa
 obtain⟨us,jl,uv,_⟩:=ab
 have d:=ds xs ys vs us A.in1 h vv uv (EU hu).1
 have r1:=RcAt.lists (e:=fun J=>true) (A:=A) il jl d.1 (EU hu).2 d.2
 have r2:=RcNeAt.lists (e:=fun J=>true) (A:=A) il jl d.1 (EU hu).2 d.2
 rw[MZ]at r1 r2
 exact⟨r1,r2⟩
theorem TJ{xs ys:List V}{a b:Addr}(ds:Yk U ρ s H n)(aa:bB U.sa ρ s.heap xs a)(ab:bB U.sa ρ s.heap ys b)(h:Jw n H xs ys=true)(hu:A.units+(n+1) < cLine):RcAt A s (.ref a) (.ref b) true/\RcNeAt A s (.ref a) (.ref b) false:=by
 obtain⟨vs,il,vv,_⟩:=aa
 obtain⟨us,jl,uv,_⟩:=ab
 have d:=ds xs ys vs us A.in1 h vv uv (EU hu).1
 have r1:=RcAt.tuples (e:=fun J=>true) (A:=A) il jl (EU hu).2 d.2
 have r2:=RcNeAt.tuples (e:=fun J=>true) (A:=A) il jl (EU hu).2 d.2
 have e:(vs.toArray.size==us.toArray.size)=true:=beq_iff_eq.mpr d.1
 rw[MZ,e]at r1 r2
 exact⟨r1,r2⟩
theorem Gf.nil{sa:Addr}{es:List (Str×Value)}(h:Gf sa ρ [] es):es=[]:=by cases es with | nil=>rfl | cons _ _=>exact h.elim
theorem Gf.one{sa:Addr}{es:List (Str×Value)}{p:Nat×V}(h:Gf sa ρ [p] es):∃y,es=[(wd p.1,y)]/\VR sa ρ p.2 y:=by
 cases es with
 | nil=>exact h.elim
 | cons e r=>
  cases r with
  | cons _ _=>exact h.2.2.elim
  | nil=>exact⟨e.2,by rw[<-h.1],h.2.1⟩
theorem S6{xs ys:List (Nat×V)}{a b:Addr}(ds:DS U ρ s H n)(aa:YL U ρ s.heap xs a)(ab:YL U ρ s.heap ys b)(h:Zq (Kb n H) xs ys=true)(hu:A.units+(n+1) < cLine):RcAt A s (.ref a) (.ref b) true/\RcNeAt A s (.ref a) (.ref b) false:=by
 obtain⟨oa,es,ha,da,va,la⟩:=aa
 obtain⟨ob,fs,hb,db,vb,lb⟩:=ab
 cases xs with
 | nil=>
  cases ys with
  | cons _ _=>exact AK h
  | nil=>
   obtain⟨c1,ep1,d1⟩:=IN da va.nil
   obtain⟨c2,ep2,d2⟩:=IN db vb.nil
   exact Pr ha hb c1 c2 (EU hu).2 fun prog w E Q nm hq=>JF (Dt la) (Dt lb) ha hb d1 d2 hq
 | cons p r=>
  cases ys with
  | nil=>exact AK h
  | cons q t=>
   have h:(r.isEmpty&&t.isEmpty&&(p.1==q.1&&Kb n H p.2 q.2))=true:=h
   rw[DK,DK,DK]at h
   cases List.isEmpty_iff.mp h.1.1
   cases List.isEmpty_iff.mp h.1.2
   obtain⟨y,e1,f2⟩:=va.one
   obtain⟨y',e2,g2⟩:=vb.one
   cases e1
   cases e2
   obtain⟨c1,ep1,z,t,d1,k1,w1⟩:=IY da
   obtain⟨c2,ep2,z',t',d2,k2,w2⟩:=IY db
   have sm:=(ds _ _ y y' A.in1 h.2.2 f2 g2 (EU hu).1).1
   rw[<-w1,<-w2]at sm
   rw[eq_of_beq h.2.1]at k1
   exact Pr ha hb c1 c2 (EU hu).2 fun prog w E Q nm hq=>JC (Dt la) (Dt lb) ha hb d1 d2 k1 k2 sm hq
theorem Pq(x:AL U X ρ H s.heap)(ds:DS U ρ s H n)(dss:Yk U ρ s H n){i j:Nat}{p q:Addr×Addr}(h:Kb (n+1) H (.ref i) (.ref j)=true)(ea:ρ[i]? =some p)(eb:ρ[j]? =some q)(hu:A.units+(n+1) < cLine):HM A s (.ref p.1) (.ref q.1):=
 Xj h fun c hi h=>Xj h fun d hj h=>Qa<|by
  cases c with
  | list xs=>exact cO (P:=fun d=>H[j]? =some d->_) h (fun ys h hj=>Tf dss (x.pL ea hi) (x.pL eb hj) h hu) hj
  | tup xs=>exact bX (P:=fun d=>H[j]? =some d->_) h (fun ys h hj=>TJ dss (x.pT ea hi) (x.pT eb hj) h hu) hj
  | dictW xs=>exact dX (P:=fun d=>H[j]? =some d->_) h (fun ys h hj=>S6 ds (x.pD ea hi) (x.pD eb hj) h hu) hj
  | _=>exact AK h
theorem SO(x:AL U X ρ H s.heap)(ds:DS U ρ s H n)(dss:Yk U ρ s H n):DS U ρ s H (n+1):=fun a b a' b' A h va vb hu=>by
 cases a with
 | none=>cases b with
  | none=>cases va;cases vb;exact⟨.same _,RcAt.none_none,RcNeAt.none_none⟩
  | _=>exact AK h
 | bool i=>exact cA (P:=fun b=>VR U.sa ρ b b'->_) h (fun j h vb=>by cases va;cases vb;rw[eq_of_beq h];exact PD _) vb
 | int i=>exact dW (P:=fun b=>VR U.sa ρ b b'->_) h (fun j h vb=>va.intE (P:=fun y=>HM A s y _) fun t=>vb.intE (P:=fun y=>HM A s _ y) fun u=>by rw[eq_of_beq h];exact Rz _ t u) vb
 | w i=>exact eE (P:=fun b=>VR U.sa ρ b b'->_) h (fun j h vb=>va.wE (P:=fun y=>HM A s y _) fun t=>vb.wE (P:=fun y=>HM A s _ y) fun u=>by rw[eq_of_beq h];exact IK _ t u) vb
 | dec i=>cases b with
  | dec j=>
   obtain⟨t,rfl⟩:=va;obtain⟨u,rfl⟩:=vb
   rw[eq_of_beq (show(i==j)=true from h)]
   exact IK _ t u
  | _=>exact AK h
 | ref i=>exact eJ (P:=fun b=>Kb (n+1) H (.ref i) b=true->VR U.sa ρ b b'->_) h (fun j J h vb=>va.refE (P:=fun y=>HM A s y _) fun p ep=>vb.refE (P:=fun y=>HM A s _ y) fun q eq=>Pq x ds dss h ep eq hu) h vb
 | ext=>exact AK h
theorem PI(ds:DS U ρ s H n)(dss:Yk U ρ s H n):Yk U ρ s H (n+1):=fun as bs as' bs' A h va vb hu=>by
 cases as with
 | nil=>
  cases bs with
  | cons _ _=>exact AK h
  | nil=>cases as' with
   | cons _ _=>exact va.elim
   | nil=>cases bs' with
    | nil=>exact⟨rfl,fun j h1 J=>absurd h1 (Nat.not_lt_zero _)⟩
    | cons _ _=>exact vb.elim
 | cons a r=>
  cases bs with
  | nil=>exact AK h
  | cons b q=>cases as' with
   | nil=>exact va.elim
   | cons a' r'=>cases bs' with
    | nil=>exact vb.elim
    | cons b' q'=>
     have h:=(DK _ _).mp h
     have d:=dss r q r' q' A h.2 va.2 vb.2 (by exact Nat.lt_of_succ_lt ‹_›)
     refine⟨congrArg (·+1) d.1,fun j h1 h2=> ?_⟩
     cases j with
     | zero=>exact(ds a b a' b' A h.1 va.1 vb.1 (by exact Nat.lt_of_succ_lt ‹_›)).1
     | succ j=>exact d.2 j (Nat.lt_of_succ_lt_succ h1) (Nat.lt_of_succ_lt_succ h2)
theorem Ey(x:AL U X ρ H s.heap):∀n,DS U ρ s H n/\Yk U ρ s H n
 | 0=>⟨fun J J J J J h=>AK h,fun J J J J J h=>AK h⟩
 | n+1=>⟨SO x (Ey x n).1 (Ey x n).2,PI (Ey x n).1 (Ey x n).2⟩
end
end
section
variable{U:Un}{X:Fx}{ρ:A8}{H:MH}{s:Shared}{A:Around}
noncomputable def PJ(A:Around)(s:Shared)(a b:Value)(t:Bool):Prop:=EqAt A s a b t/\RcAt A s a b t/\RcNeAt A s a b (!t)
theorem FL{α:Type}{P:Prop}{t:α}(h:none=some t):P:=nomatch h
theorem EV{b t0 t:Bool}(h:JA b t0=some t):b=true/\t0=t:=by
 cases b with
 | false=>exact FL h
 | true=>exact⟨rfl,Option.some.inj h⟩
theorem YC{o o2:Option Af}{t:Bool}(h:(@Option.casesOn _ (fun J=>Option Bool) o none fun c=> @Option.casesOn _ (fun J=>Option Bool) o2 none fun d=>WA c d)=some t):∃xs ys,o=some (.list xs)/\o2=some (.list ys)/\(xs.isEmpty||ys.isEmpty)=true/\(xs.isEmpty&&ys.isEmpty)=t:=by
 cases o with
 | none=>exact FL h
 | some c=>cases o2 with
  | none=>exact FL h
  | some d=>cases c with
   | list xs=>cases d with
    | list ys=>exact⟨xs,ys,rfl,rfl,EV h⟩
    | _=>exact FL h
   | _=>exact FL h
theorem LI(x:AL U X ρ H s.heap){i j:Nat}{p q:Addr×Addr}{xs ys:List V}(ep:ρ[i]? =some p)(eq:ρ[j]? =some q)(hi:H[i]? =some (.list xs))(hj:H[j]? =some (.list ys))(hl:xs.length≠ys.length)(hu:A.units < cLine):PJ A s (.ref p.1) (.ref q.1) false:=by
 have ne:i≠j:=fun e=>by rw[e,hj]at hi;cases hi;exact hl rfl
 obtain⟨vs,il,vv,_⟩:=x.pL ep hi
 obtain⟨us,jl,uv,_⟩:=x.pL eq hj
 have hz:vs.toArray.size≠us.toArray.size:=fun e=>hl (vv.length.symm.trans (e.trans uv.length))
 have JK:(vs.toArray.size != us.toArray.size)=true:=bne_iff_ne.mpr hz
 have r1:=RcAt.lists_lengths (A:=A) il jl JK hu
 refine⟨Kg r1 fun e=> ?_,r1,RcNeAt.lists_lengths (A:=A) il jl JK hu⟩
 exfalso
 rw[e]at il
 obtain⟨o,ho,_,n,hd⟩:=il
 obtain⟨o',ho',_,n',hd'⟩:=jl
 cases ho.symm.trans ho'
 cases hd.symm.trans hd'
 exact hz rfl
theorem OX(x:AL U X ρ H s.heap){a b:V}{a' b':Value}{t:Bool}(h:SU H a b=some t)(va:VR U.sa ρ a a')(vb:VR U.sa ρ b b')(hu:A.units+70 < cLine):PJ A s a' b' t:=by
 have hu0:A.units < cLine:=by exact qR ‹_›
 cases a with
 | none=>cases va;cases b with
  | none=>cases vb;cases h;exact⟨.same _,RcAt.none_none,RcNeAt.none_none⟩
  | w j=>cases h;exact vb.wE (P:=fun y=>PJ A s _ y _) fun u=>⟨EqAt.none_str _ u,RcAt.none_str _ u,RcNeAt.none_str _ u⟩
  | _=>exact FL h
 | bool=>exact FL h
 | int i=>refine va.intE (P:=fun y=>PJ A s y _ _) fun v=> ?_;cases b with
  | int j=>cases h;exact vb.intE (P:=fun y=>PJ A s _ y _) fun u=>⟨EqAt.int_int _ v _ u,RcAt.int_int _ v _ u,RcNeAt.int_int _ v _ u⟩
  | w j=>cases h;exact vb.wE (P:=fun y=>PJ A s _ y _) fun u=>⟨EqAt.int_str _ v _ u,RcAt.int_str _ v _ u,RcNeAt.int_str _ v _ u⟩
  | _=>exact FL h
 | w i=>refine va.wE (P:=fun y=>PJ A s y _ _) fun v=> ?_;cases b with
  | none=>cases vb;cases h;exact⟨EqAt.str_none _ v,RcAt.str_none _ v,RcNeAt.str_none _ v⟩
  | int j=>cases h;exact vb.intE (P:=fun y=>PJ A s _ y _) fun u=>⟨EqAt.str_int _ v _ u,RcAt.str_int _ v _ u,RcNeAt.str_int _ v _ u⟩
  | w j=>
   cases h
   rw[<-Ou]
   exact vb.wE (P:=fun y=>PJ A s _ y _) fun u=>⟨EqAt.str_str _ v _ u,RcAt.str_str _ v _ u,RcNeAt.str_str _ v _ u⟩
  | _=>exact FL h
 | dec i=>cases b with
  | dec j=>
   obtain⟨v,rfl⟩:=va;obtain⟨u,rfl⟩:=vb
   cases(EV h).2
   rw[of_decide_eq_true (EV h).1]
   exact IK _ v u
  | _=>exact FL h
 | ref i=>refine va.refE (P:=fun y=>PJ A s y _ _) fun p ep=> ?_;cases b with
  | w k=>
   cases(EV h).2
   refine vb.wE (P:=fun y=>PJ A s _ y _) fun u=>Xj (EV h).1 fun c hc h=> ?_
   cases c with
   | list xs=>obtain⟨vs,il,_⟩:=x.pL ep hc;exact⟨EqAt.list_str _ u il hu0,RcAt.list_str _ u il hu0,RcNeAt.list_str _ u il hu0⟩
   | tup xs=>obtain⟨vs,il,_⟩:=x.pT ep hc;exact⟨EqAt.tuple_str _ u il hu0,RcAt.tuple_str _ u il hu0,RcNeAt.tuple_str _ u il hu0⟩
   | _=>exact AK h
  | ref j=>
   refine vb.refE (P:=fun y=>PJ A s _ y _) fun q eq=> ?_
   have dq:Kb Jp H (.ref i) (.ref j)=true->PJ A s (.ref p.1) (.ref q.1) true:=fun d=>Pq x (Ey x 63).1 (Ey x 63).2 d ep eq (by show A.units+64 < _;exact dA ‹_› (by rfl))
   have h:Z9 (@Option.casesOn _ (fun J=>Option Bool) H[i]? none fun c=> @Option.casesOn _ (fun J=>Option Bool) H[j]? none fun d=>WA c d) (JA (Kb Jp H (.ref i) (.ref j)) true)=some t:=h
   cases e:(@Option.casesOn _ (fun J=>Option Bool) H[i]? none fun c=> @Option.casesOn _ (fun J=>Option Bool) H[j]? none fun d=>WA c d)with
   | none=>
    rw[e]at h
    cases(EV h).2
    exact dq (EV h).1
   | some t'=>
    rw[e]at h
    cases h
    obtain⟨xs,ys,hi,hj,h1,h2⟩:=YC e
    cases xs with
    | nil=>cases ys with
     | nil=>
      cases h2
      refine dq ?_
      show oC H[i]? (fun c=>oC H[j]? fun d=>RN (Jw 63 H) (Kb 63 H) c d)=true
      rw[hi,hj];rfl
     | cons=>cases h2;exact LI x ep eq hi hj (fun q=>nomatch q) hu0
    | cons=>cases ys with
     | nil=>cases h2;exact LI x ep eq hi hj (fun q=>nomatch q) hu0
     | cons=>exact AK h1
  | _=>exact FL h
 | ext=>exact FL h
end
noncomputable def LG:VP->CmpOp
 | .eq=> .Eq | .ne=> .NotEq | .lt=> .Lt | .le=> .LtE | .gt=> .Gt | .ge=> .GtE | .isin=> .In | .notin=> .NotIn
section
variable{U:Un}{xc:Value}{X:Fx}{ρ:A8}{H:MH}{s:Shared}{A:Around}{E:Value->Shared->Prop}{Q:Value->Shared->Prop}{Ad:PySem.Env}{n:Nat}
noncomputable abbrev dR:A8->Bool->Value->Prop:=fun J t c=>c=.bool t
theorem AT{α β:Type}{rel:A8->α->β->Prop}{Q:β->Shared->Prop}{a:α}{b:β}{tk:Nat}(hp:Ae rel U xc X ρ (Mine.ret a H) Q E s)(x:AL U X ρ H s.heap)(r:rel ρ a b):Q b { s with toks:=tk}:=
 hp ρ b s.heap tk (BE _) x r
theorem Cq{α β:Type}{rel:A8->α->β->Prop}{Q:β->Shared->Prop}{a:α}{b:β}{tk:Nat}(hp:Ae rel U xc X ρ (R.ok a H) Q E s)(x:AL U X ρ H s.heap)(r:rel ρ a b):Q b { s with toks:=tk}:=
 hp ρ b s.heap tk (BE _) x r
theorem My.look{sa:Addr}{ρ:A8}{k:Int}:∀{kvs:List (Int×V)} {es:List (Int×Value)},My sa ρ kvs es->(Ft k kvs=none->valueAt es k=none)/\∀v,Ft k kvs=some v->∃x,valueAt es k=some x/\VR sa ρ v x
 | [],[],_=>⟨fun J=>rfl,fun J e=>by cases e⟩
 | [],_::_,h=>h.elim
 | _::_,[],h=>h.elim
 | p::r,e::es,⟨h1,h2,h3⟩=>by
  have ih:=h3.look (k:=k)
  unfold Ft
  have hv:valueAt (e::es) k=if p.1=k then some e.2 else valueAt es k:=by
   obtain⟨ek,ev⟩:=e
   dsimp only at h1
   subst h1
   show(List.find? _ _).map _=_
   rw[List.find?_cons]
   by_cases q:p.1=k
   .simp [q]
   .simp [q,valueAt]
  rw[hv]
  by_cases q:p.1=k
  .subst q
   simp only [if_true]
   exact⟨fun e=>by(cases e),fun v e=>by cases e;exact⟨_,rfl,h2⟩⟩
  .rw [if_neg q,if_neg q]
   exact ih
theorem Gf.isSome{sa:Addr}{ρ:A8}{k:Nat}{kvs:List (Nat×V)}{es:List (Str×Value)}(h:Gf sa ρ kvs es):(valueAt es (wd k)).isSome=(Do k kvs).isSome:=by
 have:=h.look (k:=k)
 cases q:Do k kvs with
 | none=>rw[this.1 q];rfl
 | some v=>obtain⟨y,e,_⟩:=this.2 v q;rw[e];rfl
theorem My.isSome{sa:Addr}{ρ:A8}{k:Int}{kvs:List (Int×V)}{es:List (Int×Value)}(h:My sa ρ kvs es):(valueAt es k).isSome=(Ft k kvs).isSome:=by
 have:=h.look (k:=k)
 cases q:Ft k kvs with
 | none=>rw[this.1 q];rfl
 | some v=>obtain⟨y,e,_⟩:=this.2 v q;rw[e];rfl
theorem GY{sa:Addr}{ρ:A8}{k:Nat}{t:Tok}{A:Around}{s:Shared}:∀{xs:List V} {vs:List Value},C1 sa ρ xs vs->xs.all wn=true->(∀y ∈ vs,EqAt A s y (.str (wd k) t) (isStrOf (wd k) y))/\vs.map (isStrOf (wd k))=xs.map (J3 k)
 | [],[],_,_=>⟨fun J h=>(nomatch h),rfl⟩
 | [],_::_,h,_=>h.elim
 | _::_,[],h,_=>h.elim
 | x::xs,v::vs,⟨h,hs⟩,w=>by
  rw[List.all_cons,DK]at w
  obtain⟨i1,i2⟩:=GY hs w.2 (k:=k) (t:=t) (A:=A) (s:=s)
  have one:EqAt A s v (.str (wd k) t) (isStrOf (wd k) v)/\isStrOf (wd k) v=J3 k x:=by
   cases x with
   | w i=>
    obtain⟨u,rfl⟩:=h
    refine⟨EqAt.str_str _ u _ t,?_⟩
    show(wd i==wd k)=_
    rw[Ou]
    by_cases q:i=k
    .subst q;simp[J3]
    .simp [J3,q]
   | none=>cases h;exact⟨EqAt.none_str _ t,rfl⟩
   | _=>simp[wn]at w
  refine⟨fun y hy=> ?_,by rw[List.map_cons,List.map_cons,one.2,i2]⟩
  rcases List.mem_cons.mp hy with rfl | hy
  .exact one.1
  .exact i1 y hy
theorem any_map{α:Type}(f:α->Bool)(l:List α):l.any f=(l.map f).any id:=by simp[List.any_map,Function.comp_def]
noncomputable def Zj(neg:Bool):CmpOp:=if neg then .NotIn else .In
noncomputable def ZX(neg t:Bool):Bool:=if neg then !t else t
theorem QJ{items:Array Value}{a:Addr}{xs:List V}{vs:List Value}{k:Nat}{t:Tok}{neg:Bool}(il:s.heap.IsList a items\/s.heap.IsTuple a items)(e0:items=vs.toArray)(vv:C1 U.sa ρ xs vs)(hw:xs.all wn=true)(hq:Q (.bool (ZX neg (xs.any (J3 k)))) s):wpAny (model U.prog U.w) A (compareOp (Zj neg) (.str (wd k) t) (.ref a)) Q E s:=by
 subst e0
 obtain⟨i1,i2⟩:=GY (k:=k) (t:=t) (A:=A.in1) (s:=s) vv hw
 have e:vs.toArray.any (isStrOf (wd k))=xs.any (J3 k):=by
  rw[List.any_toArray,any_map,i2,<-any_map]
 have i1:∀y ∈ vs.toArray,EqAt A.in1 s y (.str (wd k) t) (isStrOf (wd k) y):=fun y hy=>i1 y (List.mem_toArray.mp hy)
 rw[<-e]at hq
 rcases il with il | il<;>cases neg
 .exact in_listAt (isStrOf (wd k)) il i1 hq
 .exact notIn_listAt (isStrOf (wd k)) il i1 hq
 .exact in_tupleAt (isStrOf (wd k)) il i1 hq
 .exact notIn_tupleAt (isStrOf (wd k)) il i1 hq
theorem QG(x:AL U X ρ H s.heap){a b:V}{a' b':Value}(va:VR U.sa ρ a a')(vb:VR U.sa ρ b b'){neg:Bool}
  (hp:Ae dR U xc X ρ (bnd (RW a b) (fun t=>Mine.ret (ZX neg t)) H) Q E s):wpAny (model U.prog U.w) A (compareOp (Zj neg) a' b') Q E s:=by
 refine Bu (P:=fun b=>VR U.sa ρ b b'->_) hp.as (fun i c hc hp vb=> ?_) vb
 refine vb.refE (P:=fun y=>wpAny _ _ (compareOp _ _ y) _ _ _) fun p ep=> ?_
 cases c with
 | list xs=>
  refine Lr (P:=fun a=>VR U.sa ρ a a'->_) hp (fun k hp va=>FW hp fun hw hp=> ?_) va
  refine va.wE (P:=fun y=>wpAny _ _ (compareOp _ y _) _ _ _) fun t=> ?_
  obtain⟨vs,il,vv,_⟩:=x.pL ep hc
  exact QJ (.inl il) rfl vv hw (Cq hp x rfl)
 | tup xs=>
  refine Lr (P:=fun a=>VR U.sa ρ a a'->_) hp (fun k hp va=>FW hp fun hw hp=> ?_) va
  refine va.wE (P:=fun y=>wpAny _ _ (compareOp _ y _) _ _ _) fun t=> ?_
  obtain⟨vs,il,vv,_⟩:=x.pT ep hc
  exact QJ (.inr il) rfl vv hw (Cq hp x rfl)
 | dictW kvs=>
  refine Lr (P:=fun a=>VR U.sa ρ a a'->_) hp (fun k hp va=> ?_) va
  refine va.wE (P:=fun y=>wpAny _ _ (compareOp _ y _) _ _ _) fun t=> ?_
  obtain⟨o,es,ho,hd,vv,lo⟩:=x.pD ep hc
  have hD:s.heap.DictOf (PySem.strKind U.prog U.w) p.1 es:=Heap.dictOf_iff.mpr ⟨o,ho,hd⟩
  have hq:Q (.bool (ZX neg (Do k kvs).isSome)) { s with toks:=s.toks+1}:=Cq hp x rfl
  rw[<-vv.isSome]at hq
  cases neg
  .exact wpAny_in_of (strKind_is _ _ _ _) (Dt lo) hD.mapOf hq
  .exact wpAny_notIn_of (strKind_is _ _ _ _) (Dt lo) hD.mapOf hq
 | dictI kvs=>
  refine XI (P:=fun a=>VR U.sa ρ a a'->_) hp (fun k hp va=> ?_) va
  refine va.intE (P:=fun y=>wpAny _ _ (compareOp _ y _) _ _ _) fun t=> ?_
  obtain⟨ad,nn,pre,post,e1,⟨o,es,rfl,hd,vv⟩,N,D,lo',_⟩:=x.cell hc
  cases ep.symm.trans e1
  have hD:s.heap.DictOf (PySem.intKind U.prog U.w) p.1 es:=Heap.dictOf_iff.mpr ⟨o,N.get (Ms _ _ _),hd⟩
  have lo:=lo' _ (.head _)
  have hq:Q (.bool (ZX neg (Ft k kvs).isSome)) { s with toks:=s.toks+1}:=Cq hp x rfl
  rw[<-vv.isSome]at hq
  cases neg
  .exact wpAny_in_of (intKind_is _ _ _ _) (Dt lo) hD.mapOf hq
  .exact wpAny_notIn_of (intKind_is _ _ _ _) (Dt lo) hD.mapOf hq
 | _=>exact hp.elim
theorem US(cx:Cx U A X Ad n)(x:AL U X ρ H s.heap){op:VP}{a b:V}{a' b':Value}(va:VR U.sa ρ a a')(vb:VR U.sa ρ b b')
  (hp:Ae dR U xc X ρ (Tt op a b H) Q E s):wpAny (model U.prog U.w) A (compareOp (LG op) a' b') Q E s:=by
 have hu:A.units+70 < cLine:=by have:=cx.hu;exact dI ‹_› (by rfl)
 cases op with
 | eq=>exact Fg hp fun t h hp=>(OX (A:=A) x h va vb hu).2.1 _ _ _ _ (Cq hp x rfl)
 | ne=>exact Dl (o:=SU H a b) hp fun t h hp=>(OX (A:=A) x h va vb hu).2.2 _ _ _ _ (Cq hp x rfl)
 | isin=>
  refine QG (xc:=xc) x va vb (neg:=false) ?_
  have:bnd (RW a b) (fun t=>Mine.ret (ZX false t)) H=RW a b H:=by
   unfold bnd;cases RW a b H<;>rfl
  rw[this];exact hp
 | notin=>exact QG (xc:=xc) x va vb (neg:=true) hp
 | lt=>exact Ei (P:=fun a b=>VR U.sa ρ a a'->VR U.sa ρ b b'->_) hp (fun i j hp va vb=>va.intE (P:=fun y=>wpAny _ _ (compareOp _ y _) _ _ _) fun t=>vb.intE (P:=fun y=>wpAny _ _ (compareOp _ _ y) _ _ _) fun u=>wpAny_lt_int (AT hp x rfl)) va vb
 | le=>exact Ei (P:=fun a b=>VR U.sa ρ a a'->VR U.sa ρ b b'->_) hp (fun i j hp va vb=>va.intE (P:=fun y=>wpAny _ _ (compareOp _ y _) _ _ _) fun t=>vb.intE (P:=fun y=>wpAny _ _ (compareOp _ _ y) _ _ _) fun u=>PyProof.Rows.le_int (AT hp x rfl)) va vb
 | gt=>exact Ei (P:=fun a b=>VR U.sa ρ a a'->VR U.sa ρ b b'->_) hp (fun i j hp va vb=>va.intE (P:=fun y=>wpAny _ _ (compareOp _ y _) _ _ _) fun t=>vb.intE (P:=fun y=>wpAny _ _ (compareOp _ _ y) _ _ _) fun u=>PyProof.Rows.gt_int (AT hp x rfl)) va vb
 | ge=>exact Ei (P:=fun a b=>VR U.sa ρ a a'->VR U.sa ρ b b'->_) hp (fun i j hp va vb=>va.intE (P:=fun y=>wpAny _ _ (compareOp _ y _) _ _ _) fun t=>vb.intE (P:=fun y=>wpAny _ _ (compareOp _ _ y) _ _ _) fun u=>PyProof.Rows.ge_int (AT hp x rfl)) va vb
end
section
variable{U:Un}{xc:Value}{X:Fx}{ρ:A8}{H:MH}{s:Shared}{A:Around}{E:Value->Shared->Prop}{Q:Value->Shared->Prop}{Ad:PySem.Env}{n:Nat}
inductive FS.madeI(U:Un)(xc:Value)(X:Fx)(ρ:A8)(H:MH)(s:Shared)(E:Value->Shared->Prop)(Q:Value->Shared->Prop):Prop
 | mk (l:_) (q0:News X.G X.L s.heap l) (q1:(∀p ∈ X.px,p ∈ l)) (q2:(∀q ∈ l,q.1 < s.heap.objs.size)) (q3:∀{c:Af} {o:Obj} {h':Heap} {tk:Nat},Ae (Aq U) U xc X ρ (alloc c H) Q E s->Fr X.G X.L h' X.m->News X.G X.L h' ((s.heap.objs.size,o)::l)->CR U (ρ++[(s.heap.objs.size,s.heap.objs.size)]) c (s.heap.objs.size,s.heap.objs.size) [(s.heap.objs.size,o)]->Q (.ref s.heap.objs.size) { s with heap:=h',toks:=tk}):FS.madeI U xc X ρ H s E Q
theorem FS.made(gf:GF U X.G)(x:AL U X ρ H s.heap):FS.madeI U xc X ρ H s E Q:=by
 obtain⟨l,N,D,sub,back⟩:=FS.all x
 have lo:3 < s.heap.objs.size:=by
  have h1:=x.fr.above
  have h2:(X.L:Nat) < s.heap.objs.size:=x.fr.ns.lt
  have h3:2 < X.G.objs.size:=by
   obtain⟨mc,hn,_⟩:=gf.T.nolimit
   exact hn.lt
  exact Nat.lt_of_le_of_lt (Nat.le_trans h3 h1) h2
 refine⟨l,N,sub,fun q hq=>Heap.lt_size (N q hq).1,fun {c o h' tk} hp F' N' cr=> ?_⟩
 have y:=back c (s.heap.objs.size,s.heap.objs.size) [(s.heap.objs.size,o)] h' F' N' (fun p hp q hq=>by
  rw[List.mem_singleton.mp hp];exact Heap.lt_size (N q hq).1) (by unfold BC;simp) (fun p hp=>by rw[List.mem_singleton.mp hp];exact lo) cr
 refine hp _ _ h' tk (List.prefix_append ..) y ?_
 refine⟨(s.heap.objs.size,s.heap.objs.size),?_,rfl⟩
 rw[<-FS.len x];simp
theorem BZ{k:Nat}(h:k<=BR):k<=sizeLine:=by rw[sizeLine_eq];unfold BR at h;exact zz ‹_› (by rfl)
theorem Uc(gf:GF U X.G)(x:AL U X ρ H s.heap){xs:List V}{vs:List Value}(v:C1 U.sa ρ xs vs)(hl:xs.length<=BR)(hp:Ae (Aq U) U xc X ρ (alloc (.list xs) H) Q E s):
  wpAny (model U.prog U.w) A (newList vs) Q E s:=by
 obtain⟨l,N,_,_,k⟩:=FS.made (xc:=xc) (Q:=Q) (E:=E) gf x
 refine newList_N x.fr N (fun h' F' N'=>k hp F' N' ⟨vs,0,rfl,v.mono (List.prefix_append ..)⟩) ?_
 rw[v.length];exact BZ hl
theorem UX(gf:GF U X.G)(x:AL U X ρ H s.heap){xs:List V}{vs:List Value}(v:C1 U.sa ρ xs vs)(hl:xs.length<=BR)(hp:Ae (Aq U) U xc X ρ (alloc (.tup xs) H) Q E s):
  wpAny (model U.prog U.w) A (newTuple vs) Q E s:=by
 obtain⟨l,N,_,_,k⟩:=FS.made (xc:=xc) (Q:=Q) (E:=E) gf x
 refine newTuple_N x.fr N (fun h' F' N'=>k hp F' N' ⟨vs,rfl,v.mono (List.prefix_append ..)⟩) ?_
 rw[v.length];exact BZ hl
theorem Qq(gf:GF U X.G)(x:AL U X ρ H s.heap){env:PySem.Env}{pos:Pos}(hp:Ae (Aq U) U xc X ρ (alloc (.dictW []) H) Q E s):
  wpAny (model U.prog U.w) A (eval (.Dict [] [] pos) env) Q E s:=by
 obtain⟨l,N,_,_,k⟩:=FS.made (xc:=xc) (Q:=Q) (E:=E) gf x
 refine wpAny_Dict_empty (k (o:={ cls:= .type "dict",data:= .dict #[]}) hp (x.fr.push _) (N.push x.fr _) ⟨_,[],rfl,?_,trivial⟩)
 obtain⟨o,ho,hd⟩:=Heap.dictOf_iff.mp (Heap.DictOf.new (knd:=PySem.strKind U.prog U.w) s.heap)
 rw[Heap.get?_push_size _ rfl]at ho
 cases ho
 exact hd
theorem Py(gf:GF U X.G)(x:AL U X ρ H s.heap){env:PySem.Env}{pos:Pos}(hp:Ae (Aq U) U xc X ρ (alloc (.dictI []) H) Q E s):
  wpAny (model U.prog U.w) A (eval (.Dict [] [] pos) env) Q E s:=by
 obtain⟨l,N,_,_,k⟩:=FS.made (xc:=xc) (Q:=Q) (E:=E) gf x
 refine wpAny_Dict_empty (k (o:={ cls:= .type "dict",data:= .dict #[]}) hp (x.fr.push _) (N.push x.fr _) ⟨_,[],rfl,?_,trivial⟩)
 obtain⟨o,ho,hd⟩:=Heap.dictOf_iff.mp (Heap.DictOf.new (knd:=PySem.intKind U.prog U.w) s.heap)
 rw[Heap.get?_push_size _ rfl]at ho
 cases ho
 exact hd
inductive Ws(U:Un)(X:Fx)(ρ:A8)(s:Shared)(i:Nat)(xs:List V):Prop
 | mk (a:Addr×Addr) (vs:List Value) (n:Nat) (news:List (Addr×Obj)) (e:ρ[i]? =some a) (hv:C1 U.sa ρ xs vs) (N:News X.G X.L s.heap news) (hm:(a.1,W.listOf (List.toArray vs) n) ∈ news) (z:True):Ws U X ρ s i xs
theorem FS.listC(x:AL U X ρ H s.heap){i:Nat}{xs:List V}(hc:H[i]? =some (.list xs)):Ws U X ρ s i xs:=by
 obtain⟨ad,nn,pre,post,e1,⟨vs,n,rfl,Ec⟩,N,_⟩:=x.cell hc
 exact⟨ad,vs,n,_,e1,Ec,N,Ms _ _ _,trivial⟩
theorem WZ{n:Nat}(h:n < 100):n<=sizeLine:=by rw[sizeLine_eq];exact bK ‹_› (by rfl)
theorem C1.one'{sa:Addr}{v:V}{xs:List Value}(h:C1 sa ρ [v] xs):∃z,xs=[z]/\VR sa ρ v z:=by
 cases xs with
 | nil=>exact h.elim
 | cons z r=>cases r with
  | nil=>exact⟨z,rfl,h.1⟩
  | cons _ _=>exact h.2.elim
theorem ND(gf:GF U X.G)(x:AL U X ρ H s.heap){v:V}{v':Value}(hv:Aq U ρ v v')(hp:Ae (Aq U) U xc X ρ (Pj v H) Q E s):
  wpAny (model U.prog U.w) A (call (.type "list") [v']) Q E s:=by
 refine Bu (P:=fun o=>Aq U ρ o v'->_) hp (fun i c hc hp hv=> ?_) hv
 refine Ez (P:=fun c=>H[i]? =some c->_) hp (fun xs hp hc=>CA hp fun hl hp=> ?_) hc
 refine hv.refE (P:=fun y=>wpAny _ _ (call _ [y]) _ _ _) fun p ep=> ?_
 obtain⟨a,vs,c,news,e1,Ec,N₀,hm,_⟩:=x.listC hc
 cases ep.symm.trans e1
 obtain⟨l,N,_,Ef,k⟩:=FS.made (xc:=xc) (Q:=Q) (E:=E) gf x
 refine call_list_seq (hsz:= ?_) p.1 (.inl rfl) (N₀ _ hm).1 rfl rfl fun h' c' hk hD=>k hp (x.fr.keeps hk) (news_pushed x.fr N hk hD rfl) ⟨vs,c',rfl,Ec.mono (List.prefix_append ..)⟩
 rw[List.size_toArray,Ec.length];exact BZ hl
theorem Gf.length{sa:Addr}{ρ:A8}:∀{kvs:List (Nat×V)} {es:List (Str×Value)},Gf sa ρ kvs es->es.length=kvs.length
 | [],[],_=>rfl
 | [],_::_,h=>h.elim
 | _::_,[],h=>h.elim
 | _::_,_::_,⟨_,_,h⟩=>congrArg (·+1) h.length
theorem My.length{sa:Addr}{ρ:A8}:∀{kvs:List (Int×V)} {es:List (Int×Value)},My sa ρ kvs es->es.length=kvs.length
 | [],[],_=>rfl
 | [],_::_,h=>h.elim
 | _::_,[],h=>h.elim
 | _::_,_::_,⟨_,_,h⟩=>congrArg (·+1) h.length
theorem Oj(gf:GF U X.G)(x:AL U X ρ H s.heap){v:V}{v':Value}(hv:Aq U ρ v v')(hp:Ae (Aq U) U xc X ρ (Oz v H) Q E s):
  wpAny (model U.prog U.w) A (call (.type "dict") [v']) Q E s:=by
 refine Bu (P:=fun o=>Aq U ρ o v'->_) hp (fun i c hc hp hv=> ?_) hv
 refine Rc (P:=fun c=>H[i]? =some c->_) hp (fun kvs hp hc=>CA hp fun hl hp=> ?_) hc
 refine hv.refE (P:=fun y=>wpAny _ _ (call _ [y]) _ _ _) fun p ep=> ?_
 obtain⟨o,es,ho,hd,vv,lo⟩:=x.pD ep hc
 obtain⟨l,N,_,Ef,k⟩:=FS.made (xc:=xc) (Q:=Q) (E:=E) gf x
 refine kt_call_dict (knd:=PySem.strKind U.prog U.w) (Dt lo) (Heap.dictOf_iff.mpr ⟨o,ho,hd⟩) (by rw[vv.length];exact WZ hl) fun h' hD hs=> ?_
 obtain⟨o',ho',hd'⟩:=Heap.dictOf_iff.mp hD
 exact k hp (x.fr.filled hs) (N.filled x.fr hs ho') ⟨o',es,rfl,hd',vv.mono (List.prefix_append ..)⟩
theorem JN{α:Type}(x:α):∀(k:Nat) (acc:Array α),List.foldl (fun x1 x2=>x1++x2) acc (List.replicate k #[x])=acc++(List.replicate k x).toArray
 | 0,acc=>by simp
 | k+1,acc=>by
  rw[List.replicate_succ,List.foldl_cons,JN x k,List.replicate_succ]
  apply Array.toList_inj.mp
  simp
theorem SB:(2:Int) ^ 63=9223372036854775808:=by decide
theorem Um(gf:GF U X.G)(x:AL U X ρ H s.heap){l k:V}{l' k':Value}(vl:Aq U ρ l l')(vk:Aq U ρ k k')(hp:Ae (Aq U) U xc X ρ (Ok .mul l k H) Q E s):
  wpAny (model U.prog U.w) A (binaryOp .Mult l' k') Q E s:=by
 refine V9 (P:=fun l=>Aq U ρ l l'->_) hp (fun i hp vl=> ?_) vl
 refine E7 (P:=fun k=>Aq U ρ k k'->_) hp (fun k hp vk=> ?_) vk
 refine Dl (o:=H[i]?) hp fun c hc hp=> ?_
 refine Ez (P:=fun c=>H[i]? =some c->_) hp (fun xs hp hc=> ?_) hc
 cases xs with
 | nil=>exact hp.elim
 | cons y r=>
  refine CA hp fun hk hq=> ?_
  cases List.isEmpty_iff.mp hk.1
  refine vl.refE (P:=fun y=>wpAny _ _ (binaryOp _ y _) _ _ _) fun p ep=>vk.intE (P:=fun y=>wpAny _ _ (binaryOp _ _ y) _ _ _) fun u=> ?_
  obtain⟨a,vs,c,news,e1,Ec,N₀,hm,_⟩:=x.listC hc
  cases ep.symm.trans e1
  obtain⟨l₂,N,_,Ef,kk⟩:=FS.made (xc:=xc) (Q:=Q) (E:=E) gf x
  obtain⟨z,rfl,hz⟩:=Ec.one'
  have hb:=hk.2
  refine mul_list x.fr N (N₀ _ hm).1 (by rewrite [SB];clear kk hq;exact eC (And.left ‹_›)) (by rewrite [SB];clear kk hq;exact eB (And.right (And.right ‹_›)) (by rfl)) (by show 1 * k.toNat<=16777216;clear kk hq;exact i1 (And.right (And.right ‹_›)) (by rfl)) fun h' F' N'=>kk hq F' N' ?_
  refine⟨List.replicate k.toNat z,0,?_,(C1.replicate hz _).mono (List.prefix_append ..)⟩
  have:=JN z k.toNat #[]
  rw[Array.empty_append]at this
  rw[show([z].toArray:Array Value)=#[z]from rfl,if_neg (show ¬(#[z]:Array Value).isEmpty=true from Bool.false_ne_true),this]
theorem SJ(gf:GF U X.G)(x:AL U X ρ H s.heap){l k:Nat}{l' k':Value}(vl:Aq U ρ (.ref l) l')(vk:Aq U ρ (.ref k) k')(hp:Ae (Aq U) U xc X ρ (Ok .add (.ref l) (.ref k) H) Q E s):
  wpAny (model U.prog U.w) A (binaryOp .Add l' k') Q E s:=by
 refine Dl (o:=H[l]?) hp fun c hc hp=>Dl (o:=H[k]?) hp fun d hd hp=> ?_
 refine Ez (P:=fun c=>H[l]? =some c->_) hp (fun xs hp hc=>Ez (P:=fun d=>H[k]? =some d->_) hp (fun ys hp hd=>CA hp fun hk hp=> ?_) hd) hc
 refine vl.refE (P:=fun y=>wpAny _ _ (binaryOp _ y _) _ _ _) fun p ep=>vk.refE (P:=fun y=>wpAny _ _ (binaryOp _ _ y) _ _ _) fun q eq=> ?_
 obtain⟨vs,il,Ec,_⟩:=x.pL ep hc
 obtain⟨ws,jl,hws,_⟩:=x.pL eq hd
 obtain⟨l₂,N,_,Ef,kk⟩:=FS.made (xc:=xc) (Q:=Q) (E:=E) gf x
 refine add_arrays (hsz:= ?_) x.fr N il jl fun h' F' N'=>kk hp F' N' ⟨vs++ws,0,rfl,(Ec.append hws).mono (List.prefix_append ..)⟩
 rw[List.size_toArray,List.size_toArray,Ec.length,hws.length];exact BZ hk
theorem SV{a b:Int}(h:0 < b):a.fmod b=a % b:=Int.fmod_eq_emod_of_nonneg a (Int.le_of_lt h)
theorem Qz{a b:Int}(h:0 < b):a.fdiv b=a / b:=Int.fdiv_eq_ediv_of_nonneg a (Int.le_of_lt h)
noncomputable def SK:U8->Operator
 | .add=> .Add | .sub=> .Sub | .mul=> .Mult | .mod=> .Mod | .fdiv=> .FloorDiv
theorem UP(cx:Cx U A X Ad n)(x:AL U X ρ H s.heap){op:U8}{a b:V}{a' b':Value}(va:Aq U ρ a a')(vb:Aq U ρ b b')(hp:Ae (Aq U) U xc X ρ (Ok op a b H) Q E s):
  wpAny (model U.prog U.w) A (binaryOp (SK op) a' b') Q E s:=by
 cases op with
 | mul=>exact Um cx.gf x va vb hp
 | add=>
  cases a with
  | int i=>exact E7 (P:=fun b=>Aq U ρ b b'->_) hp (fun j hp vb=>va.intE (P:=fun y=>wpAny _ _ (binaryOp _ y _) _ _ _) fun t=>vb.intE (P:=fun y=>wpAny _ _ (binaryOp _ _ y) _ _ _) fun u=>wpAny_add_int (AT hp x ⟨_,rfl⟩)) vb
  | ref l=>exact V9 (P:=fun b=>Ae (Aq U) U xc X ρ (Ok .add (.ref l) b H) Q E s->Aq U ρ b b'->_) hp (fun k J hp vb=>SJ cx.gf x va vb hp) hp vb
  | _=>exact hp.elim
 | sub=>exact Ei (P:=fun a b=>Aq U ρ a a'->Aq U ρ b b'->_) hp (fun i j hp va vb=>va.intE (P:=fun y=>wpAny _ _ (binaryOp _ y _) _ _ _) fun t=>vb.intE (P:=fun y=>wpAny _ _ (binaryOp _ _ y) _ _ _) fun u=>PyProof.Rows.sub_int (AT hp x ⟨_,rfl⟩)) va vb
 | mod=>exact Ei (P:=fun a b=>Aq U ρ a a'->Aq U ρ b b'->_) hp (fun i j hp va vb=>va.intE (P:=fun y=>wpAny _ _ (binaryOp _ y _) _ _ _) fun t=>vb.intE (P:=fun y=>wpAny _ _ (binaryOp _ _ y) _ _ _) fun u=>CA hp fun hj hp=>mod_int' (Int.ne_of_gt hj) (AT hp x ⟨_,by rw[SV hj]⟩)) va vb
 | fdiv=>exact Ei (P:=fun a b=>Aq U ρ a a'->Aq U ρ b b'->_) hp (fun i j hp va vb=>va.intE (P:=fun y=>wpAny _ _ (binaryOp _ y _) _ _ _) fun t=>vb.intE (P:=fun y=>wpAny _ _ (binaryOp _ _ y) _ _ _) fun u=>CA hp fun hj hp=>by
  have h0:(0:Int) < j:=by rw[hj];decide
  exact floordiv_int (Int.ne_of_gt h0) (AT hp x ⟨_,by rw[Qz h0]⟩)) va vb
end
noncomputable def Hb:Ty->String
 | .str=>"str" | .int=>"int" | .list=>"list"
structure UG(U:Un):Prop where
 notT:∀c,kin_notT U.K (U.cls c) "str"=true
 gcls:∀c,plainGet U.K (U.cls c) "__class__"=true
 fcls:∀c,findIn U.K (.ref (U.cls c)) "__class__"=some (some (.builtin "object.__class__"))
 scls:specialIn U.K (.builtin "object.__class__") "__get__"=some (some (.builtin "getset_descriptor.__get__"))
 tcls:takesIn U.K (.builtin "object.__class__")=some true
 mro:∀c,mroIn U.K (U.cls c) (.type "object")=some true
section
variable{U:Un}{xc:Value}{X:Fx}{ρ:A8}{H:MH}{s:Shared}{A:Around}{E:Value->Shared->Prop}{Q:Value->Shared->Prop}{Ad:PySem.Env}{n:Nat}
theorem Lp(slice:Expr)(o i:Value):∃ops,subscripted slice false o i=operate ops (getItem o i):=by
 refine⟨subscripted.match_1 (fun J J=>List Value) slice false (fun J J J J=>[i,o]) (fun J=>[o,i]) fun J=>[o,i],Eq.symm ?_⟩
 cases slice<;>first | rfl | (cases step<;>rfl)
theorem SI{α β:Type}{rel:A8->α->β->Prop}{Q:β->Shared->Prop}{o:Option α}(hp:Ae rel U xc X ρ (Co o H) Q E s):∃a,o=some a/\Ae rel U xc X ρ (.ok a H) Q E s:=by
 cases o with
 | none=>exact hp.elim
 | some a=>exact⟨a,rfl,hp⟩
theorem KD{k:Int}(h:k<=BR):k < 2 ^ 63:=by rewrite [SB];unfold BR at h;exact eB ‹_› (by rfl)
set_option tactic.hygienic true in
theorem Ux{vs:List Value}{k:Int}{y:Value}(h0:0<=k)(ey:vs[k.toNat]? =some y):seqIndex? k vs.toArray.size=some k.toNat:=by
 have Ef:k.toNat < vs.length:=(Es.mp ey).1
 unfold seqIndex?
 rw[List.size_toArray]
 simp only
 split
 .rename_i h;exfalso;revert h;simp;omega
 .rename_i h;simp at h ⊢;exact e5 ‹_› ‹_›
theorem Ma(x:AL U X ρ H s.heap){i':Value}{i:V}{value slice:Expr}{p:Addr×Addr}{kvs:List (Nat×V)}(d:YL U ρ s.heap kvs p.1)(vi:Aq U ρ i i')(hp:Ae (Aq U) U xc X ρ (Rj i kvs H) Q E s):wpAny (model U.prog U.w) A (subscriptTail value slice (.ref p.1) i') Q E s:=by
 refine Hx (P:=fun i=>Aq U ρ i i'->_) hp (fun k hp vi=>Fg hp fun v ev hp=> ?_) vi
 refine vi.wE (P:=fun y=>wpAny _ _ (subscriptTail _ _ _ y) _ _ _) fun t=> ?_
 obtain⟨o,es,ho,hd,vv,lo⟩:=d
 obtain⟨y,ey,hy⟩:=(vv.look (k:=k)).2 v ev
 obtain⟨ops,hs⟩:=Lp slice (.ref p.1) (.str (wd k) t)
 have hD:s.heap.DictOf (PySem.strKind U.prog U.w) p.1 es:=Heap.dictOf_iff.mpr ⟨o,ho,hd⟩
 exact tail_any hD.typeIs slot_dict_getitem.lookup (wpAny_getItem_of (strKind_is _ _ _ _) hD.mapOf ey (Cq hp x hy)) hs
theorem Vn(x:AL U X ρ H s.heap){o i:V}{o' i':Value}(vo:Aq U ρ o o')(vi:Aq U ρ i i'){value slice:Expr}(hp:Ae (Aq U) U xc X ρ (W5 o i H) Q E s):
  wpAny (model U.prog U.w) A (subscriptTail value slice o' i') Q E s:=by
 refine Bu (P:=fun o=>Aq U ρ o o'->_) hp (fun j c hc hp vo=> ?_) vo
 refine vo.refE (P:=fun y=>wpAny _ _ (subscriptTail _ _ y _) _ _ _) fun p ep=> ?_
 cases c with
 | list xs=>
  refine E7 (P:=fun i=>Aq U ρ i i'->_) hp (fun k hp vi=>CA hp fun hk hp=>Fg hp fun v ev hp=> ?_) vi
  refine vi.intE (P:=fun y=>wpAny _ _ (subscriptTail _ _ _ y) _ _ _) fun t=> ?_
  obtain⟨ops,hs⟩:=Lp slice (.ref p.1) (.int k t)
  obtain⟨vs,il,vv,_⟩:=x.pL ep hc
  obtain⟨y,ey,hy⟩:=vv.get ev
  exact tail_any il.typeIs slot_list_getitem.lookup (wpAny_getItem_list il hk.1 (KD hk.2) (by rw[List.getElem?_toArray];exact ey) (Cq hp x hy)) hs
 | tup xs=>
  refine E7 (P:=fun i=>Aq U ρ i i'->_) hp (fun k hp vi=>CA hp fun hk hp=>Fg hp fun v ev hp=> ?_) vi
  refine vi.intE (P:=fun y=>wpAny _ _ (subscriptTail _ _ _ y) _ _ _) fun t=> ?_
  obtain⟨ops,hs⟩:=Lp slice (.ref p.1) (.int k t)
  obtain⟨vs,il,vv,_⟩:=x.pT ep hc
  obtain⟨y,ey,hy⟩:=vv.get ev
  exact tail_any il.typeIs slot_tuple_getitem.lookup (PyProof.Rows.getItem_tuple il (Int.le_trans (by decide) hk.1) (KD hk.2) (j:=k.toNat) (Ux hk.1 ey) (by rw[List.getElem?_toArray];exact ey) (Cq hp x hy)) hs
 | dictW kvs=>exact Ma x (x.pD ep hc) vi hp
 | dictP kvs=>exact Ma x (x.pP ep hc) vi hp
 | _=>exact hp.elim
theorem UU(x:AL U X ρ H s.heap){v:V}{v':Value}(hv:Aq U ρ v v')(hp:Ae (Aq U) U xc X ρ (TN v H) Q E s):
  wpAny (model U.prog U.w) A (call (.builtin "len") [v']) Q E s:=by
 refine Bu (P:=fun o=>Aq U ρ o v'->_) hp (fun i c hc hp hv=> ?_) hv
 refine Ez (P:=fun c=>H[i]? =some c->_) hp (fun xs hp hc=>CA hp fun hl hp=> ?_) hc
 refine hv.refE (P:=fun y=>wpAny _ _ (call _ [y]) _ _ _) fun p ep=> ?_
 obtain⟨vs,il,vv,_⟩:=x.pL ep hc
 refine call_len_list il ?_ ?_
 .rw [List.size_toArray,vv.length]
  exact KD (by exact_mod_cast hl)
 .exact AT (tk:=s.toks+1+1) hp x ⟨_,by rw[List.size_toArray,vv.length]⟩
theorem UV(x:AL U X ρ H s.heap)(gf:GF U X.G){v:V}{v':Value}(hv:Aq U ρ v v')(hp:Ae (Aq U) U xc X ρ (Jb v H) Q E s):
  wpAny (model U.prog U.w) A (call (.builtin "isinstance") [v',.ref (U.cls .vector)]) Q E s:=by
 refine Bu (P:=fun o=>Aq U ρ o v'->_) hp (fun i c hc hp hv=> ?_) hv
 refine Td (P:=fun c=>H[i]? =some c->_) hp (fun k fs hp hc=>CA hp fun hk hp=> ?_) hc
 refine hv.refE (P:=fun y=>wpAny _ _ (call _ [y,_]) _ _ _) fun p ep=> ?_
 cases k with
 | null=>exact AK hk
 | vector=>
  obtain⟨es,nd,news,N,m1,m2,_,_,_⟩:=x.pN ep hc
  exact isi_call (K:=U.K) (t:= .ref (U.cls .vector)) (gf.K.keeps x.fr.keep) (fun M=>InstAt.type (W.InstAt.of_news N m1 m2)) (by unfold isIn;simp) (by intro q;cases q) (AT (tk:=s.toks) hp x rfl)
theorem TC(ug:UG U)(x:AL U X ρ H s.heap)(uf:UF U)(gf:GF U X.G){i:Nat}{p:Addr×Addr}{c:Af}{t:Ty}{b:Bool}(ep:ρ[i]? =some p)(hc:H[i]? =some c)(h:cH t c=some b)(hq:∀tk,Q (.bool b) { s with toks:=tk}):
  wpAny (model U.prog U.w) A (call (.builtin "isinstance") [.ref p.1,.type (Hb t)]) Q E s:=by
 cases c with
 | list xs=>
  obtain⟨a,vs,c,news,e1,Ec,N,hm,_⟩:=x.listC hc
  cases ep.symm.trans e1
  cases t with
  | list=>cases h;exact IsiPair.list_list (N _ hm).1 rfl (hq _)
  | _=>exact FL h
 | tup xs=>
  obtain⟨ad,nn,pre,post,e1,⟨vs,rfl,Ec⟩,N,_⟩:=x.cell hc
  cases ep.symm.trans e1
  cases t with
  | list=>cases h;exact IsiPair.tuple_list (N.get (Ms _ _ _)) rfl (hq _)
  | _=>exact FL h
 | inst k fs=>
  obtain⟨es,nd,news,N,m1,m2,_,_,_⟩:=x.pN ep hc
  cases t with
  | str=>cases h;exact kin_callT (gf.K.keeps x.fr.keep) (W.InstAt.of_news N m1 m2) (ug.notT k) (by first | exact PySem.isi_meta_str | exact PySem.IsiPair.isi_meta_str | exact PySem.F.isi_meta_str) (ug.gcls k) (uf.dict k) (ug.fcls k) ug.scls ug.tcls (ug.mro k) (hq _)
  | _=>exact FL h
 | _=>exact FL h
theorem VF(ug:UG U)(x:AL U X ρ H s.heap)(uf:UF U)(gf:GF U X.G){v:V}{v':Value}{t:Ty}(hv:Aq U ρ v v')(hp:Ae (Aq U) U xc X ρ (Os v t H) Q E s):
  wpAny (model U.prog U.w) A (call (.builtin "isinstance") [v',.type (Hb t)]) Q E s:=by
 cases v with
 | w i=>
  refine hv.wE (P:=fun y=>wpAny _ _ (call _ [y,_]) _ _ _) fun u=> ?_
  cases t with
  | str=>exact IsiPair.str_str (Cq (tk:=s.toks) hp x rfl)
  | int=>exact IsiPair.str_int (Cq hp x rfl)
  | list=>exact hp.elim
 | int i=>
  refine hv.intE (P:=fun y=>wpAny _ _ (call _ [y,_]) _ _ _) fun u=> ?_
  cases t with
  | str=>exact IsiPair.int_str (Cq hp x rfl)
  | int=>exact IsiPair.int_int (Cq (tk:=s.toks) hp x rfl)
  | list=>exact hp.elim
 | ref a=>
  refine hv.refE (P:=fun y=>wpAny _ _ (call _ [y,_]) _ _ _) fun p ep=> ?_
  exact Dl (o:=H[a]?) hp fun c hc hp=>Dl hp fun b hb hp=>TC ug x uf gf ep hc hb fun tk=>AT hp x rfl
 | _=>exact hp.elim
theorem VM(cx:Cx U A X Ad n)(x:AL U X ρ H s.heap){a b:V}{a' b':Value}(va:Aq U ρ a a')(vb:Aq U ρ b b')(hp:Ae (Aq U) U xc X ρ (X3 a b H) Q E s):
  wpAny (model U.prog U.w) A (call (.builtin "max") [a',b']) Q E s:=by
 refine Ei (P:=fun a b=>Aq U ρ a a'->Aq U ρ b b'->_) hp (fun i j hp va vb=> ?_) va vb
 refine va.intE (P:=fun y=>wpAny _ _ (call _ [y,_]) _ _ _) fun t=>vb.intE (P:=fun y=>wpAny _ _ (call _ [_,y]) _ _ _) fun u=> ?_
 refine max_two_ints cx.hh fun h' tk hk=> ?_
 have:=hp ρ (.int (if j > i then j else i) (if j > i then u else t)) h' tk (BE _) (FS.keeps x hk) ⟨_,rfl⟩
 by_cases c:j > i
 .rw [if_pos c]at this ⊢;rw[if_pos c]at this;exact this
 .rw [if_neg c]at this ⊢;rw[if_neg c]at this;exact this
end
section
variable{U:Un}{xc:Value}{X:Fx}{ρ:A8}{H:MH}{s:Shared}{A:Around}{E:Value->Shared->Prop}{Q:Value->Shared->Prop}{Ad:PySem.Env}{n:Nat}
inductive FS.listCellI(U:Un)(X:Fx)(ρ:A8)(H:MH)(s:Shared)(i:Nat)(xs:List V):Prop
 | mk (a:_) (vs:_) (n:_) (news:_) (q0:ρ[i]? =some a) (q1:C1 U.sa ρ xs vs) (q2:News X.G X.L s.heap news) (q3:(a.1,listOf (List.toArray vs) n) ∈ news) (q4:∀xs' vs' n',C1 U.sa ρ xs' vs'->∃news',Upd a.1 (listOf (List.toArray vs) n) (listOf (List.toArray vs') n') news news'/\∀h',Fr X.G X.L h' X.m->News X.G X.L h' news'->AL U X ρ (H.set i (.list xs')) h'):FS.listCellI U X ρ H s i xs
theorem FS.listCell(x:AL U X ρ H s.heap){i:Nat}{xs:List V}(hc:H[i]? =some (.list xs)):FS.listCellI U X ρ H s i xs:=by
 obtain⟨ad,nn,pre,post,e1,⟨vs,n,rfl,Ec⟩,N,D,lo,_,back⟩:=x.cell hc
 have w:∀o:Obj,pre++[(ad.1,o)]++post=pre++(ad.1,o)::post:=fun o=>by simp
 refine⟨ad,vs,n,_,e1,Ec,N,Ms _ _ _,fun xs' vs' n' v'=>⟨pre++[(ad.1,listOf (List.toArray vs') n')]++post,?_,fun h' F' N'=>back (.list xs') _ h' F' N' rfl ⟨vs',n',rfl,v'⟩⟩⟩
 rw[w,w]
 rw[w]at D
 exact Nk D
theorem IV{c':Af}{i:Nat}(hp:Ae (Aq U) U xc X ρ (bnd (D0 (.ref i) c') (fun J=>Mine.ret .none) H) Q E s){h':Heap}{tk:Nat}(x:AL U X ρ (H.set i c') h'):Q .none { s with heap:=h',toks:=tk}:=
 hp ρ .none h' tk (BE _) x rfl
inductive fB(U:Un)(X:Fx)(ρ:A8)(H:MH)(s:Shared)(i:Nat)(xs:List V)(p:Addr×Addr):Prop
 | mk (vs:List Value) (n:Nat) (news:List (Addr×Obj)) (hv:C1 U.sa ρ xs vs) (N:News X.G X.L s.heap news) (hm:(p.1,listOf (List.toArray vs) n) ∈ news)
  (back:∀xs' vs' n',C1 U.sa ρ xs' vs'->∃news',Upd p.1 (listOf (List.toArray vs) n) (listOf (List.toArray vs') n') news news'/\∀h',Fr X.G X.L h' X.m->News X.G X.L h' news'->AL U X ρ (H.set i (.list xs')) h'):fB U X ρ H s i xs p
theorem FS.lAt(x:AL U X ρ H s.heap){i:Nat}{xs:List V}{p:Addr×Addr}(ep:ρ[i]? =some p)(hc:H[i]? =some (.list xs)):fB U X ρ H s i xs p:=by
 obtain⟨a,vs,n,news,e1,Ec,N,hm,back⟩:=FS.listCell x hc
 cases ep.symm.trans e1
 exact⟨vs,n,news,Ec,N,hm,back⟩
theorem Np(x:AL U X ρ H s.heap){o v:V}{o' v':Value}(vo:Aq U ρ o o')(vv:Aq U ρ v v')(hp:Ae (Aq U) U xc X ρ (Ib o v H) Q E s):
  wpAny (model U.prog U.w) A (call (.builtin "list.append") [o',v']) Q E s:=by
 refine FB (P:=fun o=>Aq U ρ o o'->_) hp (fun i c hc hp vo=> ?_) vo
 refine Ez (P:=fun c=>H[i]? =some c->_) hp (fun xs hp hc=>CA hp fun hl hp=> ?_) hc
 refine vo.refE (P:=fun y=>wpAny _ _ (call _ [y,_]) _ _ _) fun p ep=> ?_
 obtain⟨vs,n,news,Ec,N,hm,back⟩:=x.lAt ep hc
 obtain⟨news',up,k⟩:=back (xs++[v]) (vs++[v']) (n+1) (Ec.append (.one vv))
 exact append_K (its:=vs.toArray) x.fr N (n:=n) (news':=news') (by rw[List.push_toArray];exact up) (fun h' F' N'=>IV (tk:=s.toks) hp (k h' F' N')) (by rw[List.size_toArray,Ec.length];exact BZ hl)
theorem L6(x:AL U X ρ H s.heap){o:V}{o':Value}(vo:Aq U ρ o o')(hp:Ae (Aq U) U xc X ρ (Gv o H) Q E s):
  wpAny (model U.prog U.w) A (call (.builtin "list.reverse") [o']) Q E s:=by
 refine FB (P:=fun o=>Aq U ρ o o'->_) hp (fun i c hc hp vo=> ?_) vo
 refine Ez (P:=fun c=>H[i]? =some c->_) hp (fun xs hp hc=>CA hp fun hl hp=> ?_) hc
 refine vo.refE (P:=fun y=>wpAny _ _ (call _ [y]) _ _ _) fun p ep=> ?_
 obtain⟨vs,n,news,Ec,N,hm,back⟩:=x.lAt ep hc
 obtain⟨news',up,k⟩:=back xs.reverse vs.reverse n Ec.reverse
 exact kl_reverse (its:=vs.toArray) x.fr N rfl up (by show vs.length<=_;rw[Ec.length];exact BZ hl) (fun h' F' N'=>IV (tk:=s.toks) hp (k h' F' N'))
theorem OB{a b:Nat}(h:a+b<=BR):¬(Builtin.List.listTooLong (a+b))=true:=by
 simp[Builtin.List.listTooLong,sizeLine,BR]at h ⊢;exact zz ‹_› (by rfl)
inductive aQ(U:Un)(X:Fx)(ρ:A8)(H:MH)(s:Shared)(i:Nat)(xs ys:List V)(p q:Addr×Addr):Prop
 | mk (vs:List Value) (n:Nat) (ws:List Value) (n2:Nat) (g1:s.heap.get? p.1=some (listOf (List.toArray vs) n)) (g2:s.heap.get? q.1=some (listOf (List.toArray ws) n2)) (hz:vs.toArray.size+ws.toArray.size<=BR)
  (fx:AL U X ρ (H.set i (.list (xs++ys))) (s.heap.update p.1 (Obj.mapSeq (·++ws.toArray)))):aQ U X ρ H s i xs ys p q
theorem FS.ext(x:AL U X ρ H s.heap){i j:Nat}{xs ys:List V}{p q:Addr×Addr}(ep:ρ[i]? =some p)(eq:ρ[j]? =some q)(hc:H[i]? =some (.list xs))(hd:H[j]? =some (.list ys))(hl:xs.length+ys.length<=BR):aQ U X ρ H s i xs ys p q:=by
 obtain⟨vs,n,news,Ec,N,hm,back⟩:=x.lAt ep hc
 obtain⟨ws,n2,news2,hws,N2,hm2,_⟩:=x.lAt eq hd
 obtain⟨news',up,k⟩:=back (xs++ys) (vs++ws) (if ws=[]then n else n+1) (Ec.append hws)
 have z:=N _ hm
 refine⟨vs,n,ws,n2,z.1,(N2 _ hm2).1,by rw[List.size_toArray,List.size_toArray,Ec.length,hws.length];exact hl,?_⟩
 obtain⟨pre,post,rfl,rfl,a1,b1⟩:=up.split
 refine k _ (x.fr.change (Heap.SameBut.update ..) z.2.1 z.2.2) (ki_turn _ N a1 b1 (List.append_toArray ..) ?_)
 by_cases hw:ws=[]
 .cases hw
  exact(if_pos (by rw[List.append_nil];exact beq_self_eq_true _)).trans (if_pos rfl).symm
 .have:ws.length≠0:=fun e=>hw (List.eq_nil_of_length_eq_zero e)
  rw[if_neg hw,if_neg]
  rw[beq_iff_eq,List.size_toArray,List.size_toArray,S2]
  clear k up back
  omega
theorem No(x:AL U X ρ H s.heap){o v:V}{o' v':Value}(vo:Aq U ρ o o')(vv:Aq U ρ v v')(hp:Ae (Aq U) U xc X ρ (CI o v H) Q E s):
  wpAny (model U.prog U.w) A (call (.builtin "list.extend") [o',v']) Q E s:=by
 unfold CI at hp
 by_cases hov:o=v
 .rw [if_pos hov]at hp;exact hp.elim
 rw[if_neg hov]at hp
 refine FB (P:=fun o=>Aq U ρ o o'->_) hp (fun i c hc hp vo=>Bu (P:=fun v=>Aq U ρ v v'->_) hp (fun j d hd hp vv=> ?_) vv) vo
 refine Ez (P:=fun c=>H[i]? =some c->_) hp (fun xs hp hc=>Ez (P:=fun d=>H[j]? =some d->_) hp (fun ys hp hd=>CA hp fun hl hp=> ?_) hd) hc
 refine vo.refE (P:=fun y=>wpAny _ _ (call _ [y,_]) _ _ _) fun p ep=>vv.refE (P:=fun y=>wpAny _ _ (call _ [_,y]) _ _ _) fun q eq=> ?_
 obtain⟨vs,n,ws,n2,g1,g2,hz,fx⟩:=x.ext ep eq hc hd hl
 exact call_meets PySem.F.slot_list_extend ⟨_,g1,rfl⟩ PySem.F.entry_list_extend (PySem.F.args_list_extend_2 _ _) (PySem.AutoSeq1.list_extend_list_list_0 p.1 vs.toArray n q.1 ws.toArray n2 (fun h=>OB hz ((DK _ _).mp h).2) (BZ (Nat.le_trans (Nat.le_add_right _ _) hz)) (Nat.le_succ_of_le (BZ hz))) ⟨g1,g2,IV (tk:=s.toks) hp fx⟩
theorem Vc(x:AL U X ρ H s.heap){o:V}{o':Value}(vo:Aq U ρ o o')(hp:Ae (Aq U) U xc X ρ (Ul o H) Q E s):
  wpAny (model U.prog U.w) A (call (.builtin "list.pop") [o']) Q E s:=by
 refine FB (P:=fun o=>Aq U ρ o o'->_) hp (fun i c hc hp vo=> ?_) vo
 refine Ez (P:=fun c=>H[i]? =some c->_) hp (fun xs hp hc=>CA hp fun hl hp=>Dl hp fun v hx hp=> ?_) hc
 refine vo.refE (P:=fun y=>wpAny _ _ (call _ [y]) _ _ _) fun p ep=> ?_
 obtain⟨vs,n,news,Ec,N,hm,back⟩:=x.lAt ep hc
 obtain⟨news',up,k⟩:=back xs.dropLast vs.dropLast (n+1) Ec.dropLast
 have Ba:vs.length=xs.length:=Ec.length
 obtain⟨y,ey,hy⟩:=Ec.get ((List.getLast?_eq_getElem? ..).symm.trans hx)
 have hvl:vs.getLast? =some y:=by rw[List.getLast?_eq_getElem?,Ba];exact ey
 have hsp:vs.dropLast++[y]=vs:=by
  have hvne:vs≠[]:=fun e=>by rw[e]at hvl;cases hvl
  rw[List.getLast?_eq_some_getLast hvne]at hvl
  cases hvl
  exact List.dropLast_concat_getLast hvne
 have hk:=kpa_last y vs.dropLast
 rw[hsp]at hk
 exact kl_pop (its:=vs.toArray) (p:=vs.dropLast) (y:=y) x.fr N hk up (by show vs.length<=_;rw[Ba];exact BZ hl.1) (fun h' F' N'=>hp ρ y h' s.toks (BE _) (k h' F' N') hy)
theorem KT(x:AL U X ρ H s.heap){i:Nat}{xs:List V}(hc:H[i]? =some (.list xs)){k:Int}{v:V}{p:Addr×Addr}{t:Tok}{v':Value}(ep:ρ[i]? =some p)(vv:Aq U ρ v v'){Q:Unit->Shared->Prop}
  (h0:0<=k) (h1:k < xs.length) (h2:xs.length<=BR)
  (hq:∀h' tk,AL U X ρ (H.set i (.list (xs.set k.toNat v))) h'->Q () { s with heap:=h',toks:=tk}):wpAny (model U.prog U.w) A (setItem (.ref p.1) (.int k t) v') Q E s:=by
 obtain⟨vs,n,news,Ec,N,hm,back⟩:=x.lAt ep hc
 obtain⟨news',up,kk⟩:=back (xs.set k.toNat v) (vs.set k.toNat v') n (Ec.set vv _)
 obtain⟨pre,post,rfl,rfl,a1,b1⟩:=up.split
 have z:=N _ hm
 have Ba:=Ec.length
 refine ki_setAt (items:=vs.toArray) (n:=n) z.1 h0 (KD (Int.le_trans (Int.le_of_lt h1) (by exact_mod_cast h2))) (by rw[List.size_toArray,Ba];exact h1) ?_
 refine hq _ _ (kk _ (x.fr.change (Heap.SameBut.update ..) z.2.1 z.2.2) (ki_turn _ N a1 b1 ?_ ?_))
 .apply Array.toList_inj.mp
  simp
 .simp
end
section
variable{K:Type}[DecidableEq K]
theorem HB(e:K×Value)(es:List (K×Value))(k:K)(v:Value)(hn:((e::es).map (·.1)).Nodup):
  stored (e::es) k v=if e.1=k then(k,v)::es else e::stored es k v:=by
 rw[List.map_cons,List.nodup_cons]at hn
 unfold stored
 rw[List.any_cons]
 by_cases h:e.1=k
 .subst h
  simp only [decide_true,Bool.true_or,if_true,List.map_cons]
  congr 1
  rw[List.map_congr_left (g:=id) (fun p hp=> ?_),List.map_id]
  rw[if_neg];rfl
  intro q
  exact hn.1 (List.mem_map.mpr ⟨p,hp,q⟩)
 .simp only [h,decide_false,Bool.false_or,if_false]
  split
  .simp [h]
  .rfl
end
theorem Gf.stored{sa:Addr}{ρ:A8}{k:Nat}{v:V}{x:Value}(hv:VR sa ρ v x):∀{kvs:List (Nat×V)} {es:List (Str×Value)},Gf sa ρ kvs es->(es.map (·.1)).Nodup->Gf sa ρ (ET k v kvs) (stored es (wd k) x)
 | [],[],_,_=>⟨rfl,hv,trivial⟩
 | [],_::_,h,_=>h.elim
 | _::_,[],h,_=>h.elim
 | p::r,e::es,⟨h1,h2,h3⟩,hn=>by
  rw[HB _ _ _ _ hn]
  unfold ET
  by_cases h:p.1=k
  .rw [if_pos h,if_pos (by rw[h1,h])]
   exact⟨rfl,hv,h3⟩
  .rw [if_neg h,if_neg (by rw[h1];exact fun q=>h (N8 q))]
   rw[List.map_cons,List.nodup_cons]at hn
   exact⟨h1,h2,Gf.stored hv h3 hn.2⟩
theorem My.stored{sa:Addr}{ρ:A8}{k:Int}{v:V}{x:Value}(hv:VR sa ρ v x):∀{kvs:List (Int×V)} {es:List (Int×Value)},My sa ρ kvs es->(es.map (·.1)).Nodup->My sa ρ (L7 k v kvs) (stored es k x)
 | [],[],_,_=>⟨rfl,hv,trivial⟩
 | [],_::_,h,_=>h.elim
 | _::_,[],h,_=>h.elim
 | p::r,e::es,⟨h1,h2,h3⟩,hn=>by
  rw[HB _ _ _ _ hn]
  unfold L7
  by_cases h:p.1=k
  .rw [if_pos h,if_pos (by rw[h1,h])]
   exact⟨rfl,hv,h3⟩
  .rw [if_neg h,if_neg (by rw[h1];exact h)]
   rw[List.map_cons,List.nodup_cons]at hn
   exact⟨h1,h2,My.stored hv h3 hn.2⟩
section
variable{U:Un}{xc:Value}{X:Fx}{ρ:A8}{H:MH}{s:Shared}{A:Around}{E:Value->Shared->Prop}{Q:Value->Shared->Prop}{Ad:PySem.Env}{n:Nat}
inductive FS.oneCellI(U:Un)(X:Fx)(ρ:A8)(H:MH)(s:Shared)(i:Nat)(c:Af):Prop
 | mk (a:_) (o:_) (news:_) (g:_) (q0:ρ[i]? =some a) (q1:3 < a.1) (q2:CR U ρ c a [(a.1,o)]) (q3:News X.G X.L s.heap news) (q4:(a.1,o) ∈ news) (q5:UpdF a.1 o news g) (q6:∀c' o' h',CR U ρ c' a [(a.1,o')]->Fr X.G X.L h' X.m->News X.G X.L h' (g o')->AL U X ρ (H.set i c') h'):FS.oneCellI U X ρ H s i c
theorem FS.oneCell(x:AL U X ρ H s.heap){i:Nat}{c:Af}(hc:H[i]? =some c)(h1:∀k fs,c≠.inst k fs/\c≠.tab):FS.oneCellI U X ρ H s i c:=by
 obtain⟨ad,nn,pre,post,e1,cr,N,D,lo,_,back⟩:=x.cell hc
 have w:∀o:Obj,pre++[(ad.1,o)]++post=pre++(ad.1,o)::post:=fun o=>by simp
 have one:∃o,nn=[(ad.1,o)]:=by
  cases c with
  | list xs=>obtain⟨vs,n,rfl,_⟩:=cr;exact⟨_,rfl⟩
  | tup xs=>obtain⟨vs,rfl,_⟩:=cr;exact⟨_,rfl⟩
  | dictW xs=>obtain⟨o,es,rfl,_⟩:=cr;exact⟨_,rfl⟩
  | dictP xs=>obtain⟨o,es,rfl,_⟩:=cr;exact⟨_,rfl⟩
  | dictI xs=>obtain⟨o,es,rfl,_⟩:=cr;exact⟨_,rfl⟩
  | inst k fs=>exact absurd rfl (h1 k fs).1
  | tab=>exact absurd rfl (h1 .null []).2
 obtain⟨o,rfl⟩:=one
 refine⟨ad,o,_,fun o'=>pre++[(ad.1,o')]++post,e1,lo _ (.head _),cr,N,Ms _ _ _,?_,fun c' o' h' y F' N'=>back c' _ h' F' N' rfl y⟩
 rw[w]
 rw[w]at D
 have:=OL D
 simpa only [w]using this
inductive fG(U:Un)(X:Fx)(ρ:A8)(H:MH)(s:Shared)(i:Nat)(kvs:List (Nat×V))(p:Addr×Addr):Prop
 | mk (o:Obj) (es:List (Str×Value)) (news:List (Addr×Obj)) (g:Obj->List (Addr×Obj)) (lo:3 < p.1) (hd:o.IsDictOf (PySem.strKind U.prog U.w) es) (vd:Gf U.sa ρ kvs es) (N:News X.G X.L s.heap news) (hm:(p.1,o) ∈ news) (up:UpdF p.1 o news g)
  (back:∀c' o' h',CR U ρ c' p [(p.1,o')]->Fr X.G X.L h' X.m->News X.G X.L h' (g o')->AL U X ρ (H.set i c') h'):fG U X ρ H s i kvs p
theorem FS.dAt(x:AL U X ρ H s.heap){i:Nat}{kvs:List (Nat×V)}{p:Addr×Addr}(ep:ρ[i]? =some p)(hc:H[i]? =some (.dictW kvs)):fG U X ρ H s i kvs p:=by
 obtain⟨a,o,news,g,e1,lo,⟨o₂,es,e2,hd,vd⟩,N,hm,up,back⟩:=FS.oneCell x hc (fun J J=>⟨Af.noConfusion,Af.noConfusion⟩)
 cases e2
 cases ep.symm.trans e1
 exact⟨o,es,news,g,lo,hd,vd,N,hm,up,back⟩
theorem Go{K:Type}[DecidableEq K]{pr:Program}{w:World}{knd:PySem.KeyKind pr w K}{o:Obj}{es:List (K×Value)}(h:o.IsDictOf knd es):(es.map (·.1)).Nodup:=by
 obtain⟨_,_,_,_,_,_,hn⟩:=h
 exact hn
theorem LU(x:AL U X ρ H s.heap){o k v:V}{o' k' v':Value}(vo:Aq U ρ o o')(vk:Aq U ρ k k')(vv:Aq U ρ v v'){Q:Unit->Shared->Prop}(hp:Ae (fun J J J=>True) U xc X ρ (Dk o k v H) Q E s):
  wpAny (model U.prog U.w) A (setItem o' k' v') Q E s:=by
 refine FB (P:=fun o=>Aq U ρ o o'->_) hp (fun i c hc hp vo=> ?_) vo
 refine vo.refE (P:=fun y=>wpAny _ _ (setItem y _ _) _ _ _) fun p ep=> ?_
 cases c with
 | list xs=>
  refine E7 (P:=fun k=>Aq U ρ k k'->_) hp (fun k hp vk=>CA hp fun hk hp=> ?_) vk
  exact vk.intE (P:=fun y=>wpAny _ _ (setItem _ y _) _ _ _) fun t=>KT x hc ep vv hk.1 hk.2.1 hk.2.2 fun h' tk x'=>hp ρ () h' tk (BE _) x' trivial
 | dictW kvs=>
  refine Hx (P:=fun k=>Aq U ρ k k'->_) hp (fun k hp vk=>CA hp fun hk hp=> ?_) vk
  refine vk.wE (P:=fun y=>wpAny _ _ (setItem _ y _) _ _ _) fun t=> ?_
  obtain⟨o,es,news,g,lo,hd,vd,N,hm,up,back⟩:=x.dAt ep hc
  exact kda_set x.fr N up hd (strKind_is _ _ _ _) (by rw[vd.length];exact WZ hk) fun h' o' F' N' hd'=>hp ρ () h' _ (BE _) (back (.dictW (ET k v kvs)) o' h' ⟨o',_,rfl,hd',Gf.stored vv vd (Go hd)⟩ F' N') trivial
 | dictI kvs=>
  refine E7 (P:=fun k=>Aq U ρ k k'->_) hp (fun k hp vk=>CA hp fun hk hp=> ?_) vk
  refine vk.intE (P:=fun y=>wpAny _ _ (setItem _ y _) _ _ _) fun t=> ?_
  obtain⟨a,o,news,g,e1,lo,⟨o₂,es,e2,hd,vd⟩,N,hm,up,back⟩:=FS.oneCell x hc (fun J J=>⟨Af.noConfusion,Af.noConfusion⟩)
  cases e2
  cases ep.symm.trans e1
  exact kda_set x.fr N up hd (intKind_is _ _ _ _) (by rw[vd.length];exact WZ hk.1) fun h' o' F' N' hd'=>hp ρ () h' _ (BE _) (back (.dictI (L7 k v kvs)) o' h' ⟨o',_,rfl,hd',My.stored vv vd (Go hd)⟩ F' N') trivial
 | _=>exact hp.elim
theorem Gf.getD{sa:Addr}{k:Nat}{kvs:List (Nat×V)}{es:List (Str×Value)}{d:V}{d':Value}(vd:Gf sa ρ kvs es)(h:VR sa ρ d d'):VR sa ρ ((Do k kvs).getD d) ((valueAt es (wd k)).getD d'):=by
 have lk:=vd.look (k:=k)
 cases q:Do k kvs with
 | none=>rw[lk.1 q];exact h
 | some v=>obtain⟨y,e,hy⟩:=lk.2 v q;rw[e];exact hy
theorem Ti(x:AL U X ρ H s.heap){o k:V}{o' k':Value}(vo:Aq U ρ o o')(vk:Aq U ρ k k')(hp:Ae (Aq U) U xc X ρ (PH o k .none H) Q E s):
  wpAny (model U.prog U.w) A (call (.builtin "dict.get") [o',k']) Q E s:=by
 refine Bu (P:=fun o=>Aq U ρ o o'->_) hp (fun i c hc hp vo=> ?_) vo
 refine Rc (P:=fun c=>H[i]? =some c->_) hp (fun kvs hp hc=> ?_) hc
 refine Hx (P:=fun k=>Aq U ρ k k'->_) hp (fun k hp vk=> ?_) vk
 refine vo.refE (P:=fun y=>wpAny _ _ (call _ [y,_]) _ _ _) fun p ep=>vk.wE (P:=fun y=>wpAny _ _ (call _ [_,y]) _ _ _) fun t=> ?_
 obtain⟨o,es,news,g,lo,hd,vd,N,hm,up,back⟩:=x.dAt ep hc
 exact kdg_get1 N hm hd (Dt lo) (strKind_is _ _ _ _) _ rfl (AT hp x (vd.getD rfl))
theorem SW(x:AL U X ρ H s.heap){o k d:V}{o' k' d':Value}(vo:Aq U ρ o o')(vk:Aq U ρ k k')(vd':Aq U ρ d d')(hp:Ae (Aq U) U xc X ρ (PH o k d H) Q E s):
  wpAny (model U.prog U.w) A (call (.builtin "dict.get") [o',k',d']) Q E s:=by
 refine Bu (P:=fun o=>Aq U ρ o o'->_) hp (fun i c hc hp vo=> ?_) vo
 refine Rc (P:=fun c=>H[i]? =some c->_) hp (fun kvs hp hc=> ?_) hc
 refine Hx (P:=fun k=>Aq U ρ k k'->_) hp (fun k hp vk=> ?_) vk
 refine vo.refE (P:=fun y=>wpAny _ _ (call _ [y,_,_]) _ _ _) fun p ep=>vk.wE (P:=fun y=>wpAny _ _ (call _ [_,y,_]) _ _ _) fun t=> ?_
 obtain⟨o,es,news,g,lo,hd,vd,N,hm,up,back⟩:=x.dAt ep hc
 exact kdg_get2 N hm hd (Dt lo) (strKind_is _ _ _ _) _ rfl (AT hp x (vd.getD vd'))
theorem UJ{k:Nat}(h:k<=BR):k.log2 < 1920:=by
 by_cases z:k=0
 .subst z;decide
 .refine (Nat.log2_lt z).mpr (Nat.lt_of_le_of_lt h ?_)
  have:(2:Nat) ^ 17<=2 ^ 1920:=Nat.pow_le_pow_right (by decide) (by decide)
  exact Nat.lt_of_lt_of_le (by decide) this
theorem T7(x:AL U X ρ H s.heap){v:V}{v':Value}(vv:Aq U ρ v v')(hp:Ae (Aq U) U xc X ρ (UH v H) Q E s):
  wpAny (model U.prog U.w) A (call (.type "str") [v']) Q E s:=by
 refine E7 (P:=fun v=>Aq U ρ v v'->_) hp (fun i hp vv=>CA hp fun hk hp=> ?_) vv
 exact vv.intE (P:=fun y=>wpAny _ _ (call _ [y]) _ _ _) fun t=>P.str_of_int (UJ (by have:=hk.2;clear hp;exact i2 ‹_›)) (AT hp x ⟨_,rfl⟩)
theorem Im{e:Value->Bool}{k:Nat}:∀{xs:List V} {vs:List Value} {i:Nat},vs.map e=xs.map (J3 k)->xs.findIdx? (J3 k)=some i->
  ∃h:i < vs.length,e vs[i]=true/\∀m (hm:m < vs.length),m < i->e vs[m]=false
 | [],_,_,_,h=>by simp at h
 | _::_,[],_,h,_=>by simp at h
 | x::xs,v::vs,i,h,hf=>by
  simp only [List.map_cons,List.cons.injEq]at h
  rw[List.findIdx?_cons]at hf
  by_cases q:J3 k x=true
  .rw [if_pos q]at hf
   cases hf
   exact⟨Nat.zero_lt_succ _,h.1.trans q,fun m J hm=>absurd hm (Nat.not_lt_zero _)⟩
  .rw [if_neg q]at hf
   cases hh:xs.findIdx? (J3 k)with
   | none=>rw[hh]at hf;cases hf
   | some j=>
    rw[hh]at hf
    cases hf
    obtain⟨h1,h2,h3⟩:=Im h.2 hh
    refine⟨Nat.succ_lt_succ h1,h2,fun m hm Ef=> ?_⟩
    cases m with
    | zero=>exact h.1.trans (Bool.eq_false_iff.mpr q)
    | succ m=>exact h3 m (Nat.lt_of_succ_lt_succ hm) (Nat.lt_of_succ_lt_succ Ef)
theorem Jl{M:Model}{β:Type}{n:Nat}(f:Nat->β->Sem (ForInStep β))(I:Nat->β->Shared->Prop)(Q:β->Shared->Prop)
  (turn:∀i b s,i < n->I i b s->wpAny M A (f i b) (fun r s'=>match r with | .yield b'=>I (i+1) b' s' | .done b'=>Q b' s') E s)
  (fin:∀b s,I n b s->Q b s):∀(k i:Nat) (b:β) (s:Shared),i+k=n->I i b s->wpAny M A (forIn (List.range' i k 1) b f) Q E s
 | 0,i,b,s,e,h=>by
  rw[List.range'_zero,List.forIn_nil]
  exact BH (fin _ _ (by rw[<-e];exact h))
 | k+1,i,b,s,e,h=>by
  rw[List.range'_succ,List.forIn_cons]
  refine As (wpAny_mono (turn i b s (by exact cJ ‹_›) h) (fun r s' hr=> ?_) fun J J h'=>h')
  cases r with
  | done b'=>exact BH hr
  | yield b'=>exact Jl f I Q turn fin k (i+1) b' s' (by exact bH ‹_›) hr
theorem G9{M:Model}{β:Type}{n:Nat}(f:Nat->β->Sem (ForInStep β))(I:Nat->β->Shared->Prop)(Q:β->Shared->Prop)
  (turn:∀i b s,i < n->I i b s->wpAny M A (f i b) (fun r s'=>match r with | .yield b'=>I (i+1) b' s' | .done b'=>Q b' s') E s)
  (fin:∀b s,I n b s->Q b s) (b:β) (h:I 0 b s):wpAny M A (forIn [:n] b f) Q E s:=by
 rw[Std.Legacy.Range.forIn_eq_forIn_range']
 have:=Jl (A:=A) (E:=E) f I Q turn fin n 0 b s (by exact Nat.zero_add _) h
 simpa [Std.Legacy.Range.size]using this
theorem JB(l:Addr)(items:Array Value)(n:Nat)(dd:Option Addr)(sl:Array (Option Value))(x:Value)(e:Value->Bool)(j:Nat)(hj:j < items.size)
  (hit:e items[j]=true) (hno:∀m (hm:m < items.size),m < j->e items[m]=false):
  Meets (Builtin.«tuple.index» ⟨[.ref l,x],[]⟩)
   (fun A R s=>s.heap.get? l=some { cls:= .type "tuple",dict:=dd,data:= .seq items n,slots:=sl}/\(∀y,y ∈ items->EqAt A.in1 s y x (e y))/\R (.ok (.ret (.int j s.toks))) { s with toks:=s.toks+1}):=by
 intro prog w A R s h
 obtain⟨hp,g,d,tk,os⟩:=s;obtain⟨hl,he,h⟩:=h
 wp_walk using wpAny_loadPart' hl,G9 _ (fun i b s'=>b.1=none/\s'=⟨hp,g,d,tk,os⟩/\i<=j) _
 case turn=>
  rintro i b s' hin ⟨hb,rfl,hij⟩
  have Ef:i < items.size:=by exact Nat.lt_of_le_of_lt ‹_› ‹_›
  rw[Array.getElem?_eq_getElem Ef]
  refine As (he _ (Array.getElem_mem Ef) prog w _ _ ?_)
  by_cases q:i=j
  .subst q
   rw[hit]
   wp_walk
   exact h
  .rw [hno i Ef (by exact Nat.lt_of_le_of_ne ‹_› ‹_›)]
   wp_walk
   exact⟨rfl,rfl,by exact Nat.lt_of_le_of_ne ‹_› ‹_›⟩
 case fin=>
  rintro b s' ⟨hb,rfl,hij⟩
  exact absurd hj (by exact fun e=>e9 e hij)
 case h=>exact⟨rfl,rfl,Nat.zero_le _⟩
theorem XH{n m:Nat}(h:n<=BR)(hm:m < n):(m:Int) < 2 ^ 63 - 1:=by
 have e:(2:Int) ^ 63 - 1=9223372036854775807:=by decide
 rw[e];unfold BR at h;exact g2 h hm (by rfl)
theorem Md{xs:List V}{vs:List Value}{k j:Nat}{t:Tok}(hv:C1 U.sa ρ xs vs)(hw:xs.all wn=true)(hf:xs.findIdx? (J3 k)=some j):(∀y ∈ vs.toArray,EqAt A.in1 s y (.str (wd k) t) (isStrOf (wd k) y))/\∃h:j < vs.toArray.size,isStrOf (wd k) vs.toArray[j]=true/\∀m (hm:m < vs.toArray.size),m < j->isStrOf (wd k) vs.toArray[m]=false:=by
 obtain⟨i1,i2⟩:=GY (k:=k) (t:=t) (A:=A.in1) (s:=s) hv hw
 exact⟨fun y hy=>i1 y (List.mem_toArray.mp hy),Im (e:=isStrOf (wd k)) i2 hf⟩
theorem P9(x:AL U X ρ H s.heap){tp:Bool}{o k:V}{o' k':Value}(vo:Aq U ρ o o')(vk:Aq U ρ k k')(hp:Ae (Aq U) U xc X ρ (NO tp o k H) Q E s):
  wpAny (model U.prog U.w) A (call (.builtin (if tp then "tuple.index" else "list.index")) [o',k']) Q E s:=by
 refine Bu (P:=fun o=>Aq U ρ o o'->_) hp (fun i c hc hp vo=> ?_) vo
 refine vo.refE (P:=fun y=>wpAny _ _ (call _ [y,_]) _ _ _) fun p ep=> ?_
 cases tp with
 | false=>
  refine Ez (P:=fun c=>H[i]? =some c->_) hp (fun xs hp hc=> ?_) hc
  refine Hx (P:=fun k=>Aq U ρ k k'->_) hp (fun k hp vk=>CA hp fun hw hp=>Dl hp fun j hf hp=> ?_) vk
  refine vk.wE (P:=fun y=>wpAny _ _ (call _ [_,y]) _ _ _) fun t=> ?_
  obtain⟨a,vs,c,news,e1,Ec,N,hm,_⟩:=x.listC hc
  cases ep.symm.trans e1
  obtain⟨i1,h1,h2,h3⟩:=Md (t:=t) (A:=A) (s:=s) Ec hw.1 hf
  exact call_meets PySem.F.slot_list_index ⟨_,(N _ hm).1,rfl⟩ PySem.F.entry_list_index (PySem.F.args_list_index_2 _ _)
   (list_indexAt p.1 vs.toArray c none #[] _ (isStrOf (wd k)) j h1 (XH hw.2 (Ec.length▸h1)) h2 h3)
   ⟨(N _ hm).1,i1,(hp ρ (.int j s.toks) s.heap (s.toks+1) (BE _) x ⟨_,rfl⟩:Q (.int j s.toks) { s with toks:=s.toks+1})⟩
 | true=>
  refine Y7 (P:=fun c=>H[i]? =some c->_) hp (fun xs hp hc=> ?_) hc
  refine Hx (P:=fun k=>Aq U ρ k k'->_) hp (fun k hp vk=>CA hp fun hw hp=>Dl hp fun j hf hp=> ?_) vk
  refine vk.wE (P:=fun y=>wpAny _ _ (call _ [_,y]) _ _ _) fun t=> ?_
  obtain⟨ad,nn,pre,post,e1,⟨vs,rfl,Ec⟩,N,_⟩:=x.cell hc
  cases ep.symm.trans e1
  obtain⟨i1,h1,h2,h3⟩:=Md (t:=t) (A:=A) (s:=s) Ec hw.1 hf
  have hg:=N.get (Ms _ _ _)
  exact call_meets PySem.F.slot_tuple_index ⟨_,hg,rfl⟩ PySem.F.entry_tuple_index (PySem.F.args_tuple_index_2 _ _)
   (JB p.1 vs.toArray 0 none #[] _ (isStrOf (wd k)) j h1 h2 h3)
   ⟨hg,i1,(hp ρ (.int j s.toks) s.heap (s.toks+1) (BE _) x ⟨_,rfl⟩:Q (.int j s.toks) { s with toks:=s.toks+1})⟩
theorem M4{bg:Fi}(ok:Rk bg)(x:AL U X ρ H s.heap){o k:V}{o' k':Value}(vo:Aq U ρ o o')(vk:Aq U ρ k k')(hp:Ae (Aq U) U xc X ρ (Kn bg o k H) Q E s):
  wpAny (model U.prog U.w) A (call (.builtin "str.startswith") [o',k']) Q E s:=by
 refine Hx (P:=fun o=>Aq U ρ o o'->_) hp (fun i hp vo=>Hx (P:=fun k=>Aq U ρ k k'->_) hp (fun j hp vk=>Dl hp fun b h hp=> ?_) vk) vo
 exact vo.wE (P:=fun y=>wpAny _ _ (call _ [y,_]) _ _ _) fun t=>vk.wE (P:=fun y=>wpAny _ _ (call _ [_,y]) _ _ _) fun u=>SC.startswith (AT (tk:=s.toks) hp x (by rw[ok.ok i j b h];rfl))
theorem TD{sa:Addr}{ρ:A8}{vs:List Value}{ns:List Int}(h:IntsAre vs ns):C1 sa ρ (ns.map .int) vs:=by
 induction h with
 | nil=>trivial
 | cons i t h ih=>exact⟨⟨t,rfl⟩,ih⟩
noncomputable def JR(Q:Value->Shared->Prop)(o vl vu:Value)(s:Shared):Prop:=∃l items lo hi,o=.ref l/\s.heap.IsList l items/\items.size<=sizeLine/\IsPart vl lo/\IsPart vu hi/\
 Q (.ref (s.heap.objs.size+1)) { s with heap:=(s.heap.push { cls:= .type "slice",data:= .fields #[vl,vu,.none]}).push { cls:= .type "list",data:= .seq (slicePick items lo hi none)}}
theorem IU(gf:GF U X.G)(x:AL U X ρ H s.heap){vl vu:Value}{xs:List V}{ws:List Value}{items:Array Value}(e:items=ws.toArray)(v:C1 U.sa ρ xs ws)(hp:Ae (Aq U) U xc X ρ (alloc (.list xs) H) Q E s):
  Q (.ref (s.heap.objs.size+1)) { s with heap:=(s.heap.push { cls:= .type "slice",data:= .fields #[vl,vu,.none]}).push { cls:= .type "list",data:= .seq items}}:=by
 subst e
 have x':AL U X ρ H ({ s with heap:=s.heap.push { cls:= .type "slice",data:= .fields #[vl,vu,.none]}}:Shared).heap:=FS.keeps x fun b o e=>Dx _ e
 obtain⟨l,N,_,_,k⟩:=FS.made (xc:=xc) (Q:=Q) (E:=E) (s:={ s with heap:=s.heap.push { cls:= .type "slice",data:= .fields #[vl,vu,.none]}}) gf x'
 have:=k (c:= .list xs) (o:={ cls:= .type "list",data:= .seq ws.toArray}) (tk:=s.toks) hp (x'.fr.push _) (N.push x'.fr _) ⟨ws,0,rfl,v.mono (List.prefix_append ..)⟩
 rw[show({ s with heap:=s.heap.push { cls:= .type "slice",data:= .fields #[vl,vu,.none]}}:Shared).heap.objs.size=s.heap.objs.size+1 from Heap.size_push ..]at this
 exact this
theorem PW(gf:GF U X.G)(x:AL U X ρ H s.heap){o k:V}{o' k':Value}(vo:Aq U ρ o o')(vk:Aq U ρ k k')(hp:Ae (Aq U) U xc X ρ (cutTo U.Aa o k H) Q E s):JR Q o' .none k' s:=by
 refine E7 (P:=fun k=>Aq U ρ k k'->_) hp (fun k hp vk=>vk.intE (P:=fun y=>JR Q o' .none y s) fun t=> ?_) vk
 cases o with
 | ref l=>
  refine Dl (o:=H[l]?) hp fun c hc hp=> ?_
  refine Ez (P:=fun c=>H[l]? =some c->_) hp (fun xs hp hc=>CA hp fun hk hp=> ?_) hc
  refine vo.refE (P:=fun y=>JR Q y _ _ s) fun p ep=> ?_
  obtain⟨vs,il,Ec,_⟩:=x.pL ep hc
  have e:=slicePick_upto' vs.toArray k.toNat
  rw[Int.toNat_of_nonneg hk.1]at e
  exact⟨p.1,vs.toArray,none,some k,rfl,il,by rw[List.size_toArray,Ec.length];exact BZ hk.2.2,.none,.int k t,IU gf x (ws:=vs.take k.toNat) e (Ec.take _) hp⟩
 | ext=>
  cases vo
  refine CA hp fun hk hp=> ?_
  cases hk
  obtain⟨vs,il,iv,hl⟩:=gf.ext
  refine⟨U.sa,vs.toArray,none,some 40,rfl,il.at (fun o e=>x.fr.keep _ o e),by rw[List.size_toArray];exact hl,.none,.int 40 t,IU gf x (ws:=vs.take 40) (slicePick_upto' vs.toArray 40) ?_ hp⟩
  rw[List.map_take];exact(TD iv).take 40
 | _=>exact hp.elim
theorem MY(gf:GF U X.G)(x:AL U X ρ H s.heap){o k:V}{o' k':Value}(vo:Aq U ρ o o')(vk:Aq U ρ k k')(hp:Ae (Aq U) U xc X ρ (cutFrom o k H) Q E s):JR Q o' k' .none s:=by
 refine E7 (P:=fun k=>Aq U ρ k k'->_) hp (fun k hp vk=>vk.intE (P:=fun y=>JR Q o' y .none s) fun t=> ?_) vk
 refine Bu (P:=fun o=>Aq U ρ o o'->_) hp (fun i c hc hp vo=> ?_) vo
 refine Ez (P:=fun c=>H[i]? =some c->_) hp (fun xs hp hc=>CA hp fun hk hp=> ?_) hc
 refine vo.refE (P:=fun y=>JR Q y _ _ s) fun p ep=> ?_
 obtain⟨vs,il,Ec,_⟩:=x.pL ep hc
 have e:=slicePick_from' vs.toArray k.toNat
 rw[Int.toNat_of_nonneg hk.1]at e
 exact⟨p.1,vs.toArray,some k,none,rfl,il,by rw[List.size_toArray,Ec.length];exact BZ hk.2.2,.int k t,.none,IU gf x (ws:=vs.drop k.toNat) e (Ec.drop _) hp⟩
end
variable{U:Un}{xc:Value}{X X':Fx}{ρ ρ' ρ0:A8}{H:MH}{h h':Heap}{s:Shared}{A:Around}{E Q:Value->Shared->Prop}{Ad env:PySem.Env}{n:Nat}{ns:Dm}{Γ:List Str}{vs:Mine.Env}{C:Iv Fn}{np pos apos:Pos}{fa:Fn->Addr}
noncomputable abbrev Dm:=List (Str×NameKind)
structure AJ(X:Fx)(Ad env:PySem.Env)(ns:Dm):Prop where
 names:env.scope.names=ns
 kind:env.scope.kind=.function
 glo:env.globals=mainGlobals
 blt:env.builtins=builtinsNs
 frm:env.frame=some X.L
 hc:∀y,env.kindOf y=some .cell\/env.kindOf y=some .free->(env.cells.lookup y).isSome=true
noncomputable def GB(X:Fx)(env:PySem.Env)(x:Str)(y:Value):Prop:=
 (env.kindOf x=some .local/\env.locals=X.L/\X.m x=some y)\/
 ((env.kindOf x=some .cell\/env.kindOf x=some .free)/\∃c o,env.cells.lookup x=some c/\(c,o) ∈ X.px/\o.data=.cell (some y))\/
 (env.kindOf x=some .local/\∃o m,(env.locals,o) ∈ X.px/\(∀h:Heap,h.get? env.locals=some o->h.Ns env.locals m)/\m x=some y)
noncomputable def bN:Option NameKind->Bool
 | some .local | some .cell | some .free=>true
 | _=>false
structure EO(U:Un)(X:Fx)(ρ:A8)(env:PySem.Env)(Γ:List Str)(vs:Mine.Env):Prop where
 len:vs.length=Γ.length
 get:∀(i:Nat) (v:V) (x:Str),vs[i]? =some (some v)->Γ[i]? =some x->bN (env.kindOf x)=true->∃y,Aq U ρ v y/\GB X env x y
theorem EO.mono{U:Un}{X:Fx}{ρ ρ':A8}{env:PySem.Env}{Γ:List Str}{vs:Mine.Env}(h:ρ <+:ρ')(e:EO U X ρ env Γ vs):EO U X ρ' env Γ vs:=
 ⟨e.len,fun i v x q r t=>let⟨y,b,c⟩:=e.get i v x q r t;⟨y,b.mono h,c⟩⟩
noncomputable def D5(ns:Dm)(x:Str):Bool:=bN (ns.lookup x)&&(!(x==("__debug__":Str))&& !(x==("__classdict__":Str)))
noncomputable def Df(ns:Dm)(x:Str):Bool:=ns.lookup x==some .globalImplicit&& !(x==("__debug__":Str))
theorem FS.news(x:AL U X ρ H s.heap):∃l,News X.G X.L s.heap l/\∀p ∈ X.px,p ∈ l:=by
 obtain⟨l,N,_,sub,_⟩:=FS.all x
 exact⟨l,N,sub⟩
theorem Ju(ek:AJ X Ad env ns)(x:AL U X ρ H s.heap){nm:Str}{y:Value}{pos:Pos}(hn:D5 ns nm=true)(l:GB X env nm y)(h:Q y s):
  wpAny (model U.prog U.w) A (eval (.Name nm pos) env) Q E s:=by
 unfold D5 at hn
 rw[DK,DK]at hn
 have hd:(nm==("__debug__":Str))=false:=by simpa using hn.2.1
 have hc:(nm==("__classdict__":Str))=false:=by simpa using hn.2.2
 refine wpAny_Name ?_ hd
 obtain⟨N,hN,sub⟩:=FS.news x
 rcases l with⟨hk,hl,hm⟩ | ⟨hk,c,o,hc',hmem,hd'⟩ | ⟨hk,o,m,hmem,Dn,hm⟩
 .exact wpAny_loadName_local ek.kind hk (by rw[hl];exact x.fr.ns) hm h
 .have hcell:s.heap.IsCell c (some y):=⟨o,hN.get (sub _ hmem),hd'⟩
  rcases hk with hk | hk
  .exact wpAny_loadName_cell ek.kind hk hc' hcell h
  .exact wpAny_loadName_free ek.kind hk hc' hcell h hc
 .exact wpAny_loadName_local ek.kind hk (Dn _ (hN.get (sub _ hmem))) hm h
theorem Dw(ek:AJ X Ad env ns)(gf:GF U X.G)(x:AL U X ρ H s.heap){nm:Str}{v:Value}{pos:Pos}(hn:Df ns nm=true)(e:nsIn U.K mainGlobals nm=some (some v))(h:Q v s):
  wpAny (model U.prog U.w) A (eval (.Name nm pos) env) Q E s:=by
 unfold Df at hn
 rw[DK]at hn
 exact nameG_K x.fr gf.K (topRead_of gf.T) e h ek.glo ek.kind (by unfold PySem.Env.kindOf;rw[ek.names];exact beq_iff_eq.mp hn.1) (by simpa using hn.2)
theorem BN(ek:AJ X Ad env ns)(gf:GF U X.G)(x:AL U X ρ H s.heap){nm:Str}{v:Value}{pos:Pos}(hn:Df ns nm=true)(e:nsIn U.K mainGlobals nm=some none)(hv:bootBuiltins nm=some v)(hn':nm≠"__name__")(h:Q v s):
  wpAny (model U.prog U.w) A (eval (.Name nm pos) env) Q E s:=by
 unfold Df at hn
 rw[DK]at hn
 refine Name_function_global ek.kind (by unfold PySem.Env.kindOf;rw[ek.names];exact beq_iff_eq.mp hn.1) ?_ (by simpa using hn.2)
 refine loadGlobal_builtin (by rw[ek.glo];exact gf.T.g.keeps x.fr.keep) (mg_none_of gf.K gf.T.g e) (by rw[ek.blt];exact gf.T.b.keeps x.fr.keep) ((gf.T.builtins nm hn').trans hv) h
noncomputable def SE(U:Un)(xc:Value)(C:Iv Fn)(A:Around)(X:Fx)(env:PySem.Env)(Γ:List Str)(m:ME Fn)(e:Expr):Prop:=
 ∀ρ H s vs Q E,AL U X ρ H s.heap->EO U X ρ env Γ vs->Ae (Aq U) U xc X ρ (Ac C m vs H) Q E s->wpAny (model U.prog U.w) A (eval e env) Q E s
noncomputable def ST(U:Un)(xc:Value)(C:Iv Fn)(A:Around)(X:Fx)(env:PySem.Env)(Γ:List Str)(m:ME Fn)(e:Expr):Prop:=
 ∀ρ H s vs Q E,AL U X ρ H s.heap->EO U X ρ env Γ vs->Ae (fun J (t t':Bool)=>t'=t) U xc X ρ (bnd (Ac C m vs) AG H) Q E s->wpAny (model U.prog U.w) A (isTrue e env (eval e env)) Q E s
theorem QR(ek:AJ X Ad env ns){i:Nat}{nm:Str}{pos:Pos}(h1:Γ[i]? =some nm)(h2:D5 ns nm=true):SE U xc C A X env Γ (.O i) (.Name nm pos):=by
 intro ρ H s vs Q E x eo hp
 obtain⟨v,ev,hp⟩:=SI hp
 have:vs[i]? =some (some v):=by
  cases h:vs[i]? with
  | none=>rw[h]at ev;cases ev
  | some o=>rw[h]at ev;cases o with | none=>cases ev | some o=>cases ev;rfl
 obtain⟨y,hy,l⟩:=eo.get i v nm this h1 (by unfold PySem.Env.kindOf;rw[ek.names];unfold D5 at h2;exact(Bool.and_eq_true_iff.mp h2).1)
 exact Ju ek x h2 l (Cq (tk:=s.toks) hp x hy)
noncomputable def fQ(v:V):Option Const:= @V.casesOn (fun J=>Option Const) v (some .none) (fun b=>some (.bool b)) (fun i=>some (.int i)) (fun k=>some (.str (wd k))) (fun J=>none) (fun J=>none) none
noncomputable def V7(v:V)(c:Const):Bool:=fQ v==some c
theorem Rp{v:V}{c:Const}{k:Nat}{pos:Pos}(h:V7 v c=true):SE U xc C A X env Γ (.cst v) (.Constant c k pos):=by
 intro ρ H s vs Q E x eo hp
 have e:fQ v=some c:=eq_of_beq h
 clear h
 cases v with
 | none=>cases e;exact wpAny_Constant_none (AT (tk:=s.toks) hp x rfl)
 | bool b=>cases e;exact wpAny_Constant_bool (AT (tk:=s.toks) hp x rfl)
 | int i=>cases e;exact wpAny_Constant_int (AT hp x ⟨_,rfl⟩)
 | w k=>cases e;exact wpAny_Constant_str (AT hp x ⟨_,rfl⟩)
 | _=>exact nomatch e
theorem Vo{α:Type}{M:Model}{A:Around}{t:Sem α}{Q:α->Shared->Prop}{E:Value->Shared->Prop}{s:Shared}(h:∀(Q':α->Shared->Prop) (E':Value->Shared->Prop),(∀a s,Q a s->Q' a s)->(∀e s,E e s->E' e s)->wpAny M A t Q' E' s):wpAny M A t Q E s:=h Q E (fun J J h=>h) (fun J J h=>h)
noncomputable def Zm(e:Expr):Bool:= @Expr.casesOn (fun J=>Bool) e (fun J J J=>false) (fun J J J=>false) (fun J J J J=>false) (fun J J J=>false) (fun J J J J=>false) (fun J J J J=>false) (fun J J J=>false) (fun J J J=>false) (fun J J J J=>false) (fun J J J J=>false) (fun J J J J J=>false) (fun J J J J=>false) (fun J J=>false) (fun J J=>false) (fun J J=>false) (fun J J J J=>false) (fun J J J J=>false) (fun J J J J=>false) (fun J J=>false) (fun J J J=>false) (fun J J J=>false) (fun J J J=>false) (fun J J=>false) (fun J J=>true) (fun J J=>false) (fun J J J=>false) (fun J J J J=>false)
noncomputable def A0(e:Expr):Bool:= @Expr.casesOn (fun J=>Bool) e (fun J J J=>true) (fun J J J=>true) (fun J J J J=>true) (fun J J J=>true) (fun J J J J=>true) (fun J J J J=>true) (fun J J J=>true) (fun J J J=>true) (fun J J J J=>true) (fun J J J J=>true) (fun J J J J J=>true) (fun J J J J=>true) (fun J J=>true) (fun J J=>true) (fun J J=>true) (fun J J J J=>true) (fun f as ks J=> !(Zm f&&(as.isEmpty&&ks.isEmpty))) (fun J J J J=>true) (fun J J=>true) (fun J J J=>true) (fun J J J=>true) (fun J J J=>true) (fun J J=>true) (fun J J=>true) (fun J J=>true) (fun J J J=>true) (fun J J J J=>true)
theorem C3{o:Expr}{a:Str}{env:PySem.Env}{whole:Sem Value}(h:A0 o=true):attributeBase o a env whole=whole:=by
 refine Eq.symm (XA h ?_);clear h
 cases o with
 | Call f as ks p=>
  cases ks with
  | nil=>cases as with
   | nil=>cases f<;>first | exact rfl | exact True.intro
   | cons=>cases f<;>exact rfl
  | cons=>cases as<;>cases f<;>exact rfl
 | _=>exact rfl
theorem Vl(uf:UF U)(cx:Cx U A X Ad n){m:ME Fn}{e:Expr}{a:Nat}{pos:Pos}(ha:a ∈ CV)(hb:A0 e=true)(h:SE U xc C A X env Γ m e):SE U xc C A X env Γ (.attr m a) (.Attribute e (wd a) pos):=by
 intro ρ H s vs Q E x eo hp
 refine Attribute_any_ (h ρ H s vs _ E x eo (hp.bnd (rel1:=Aq U) fun v H1 ρ1 v' h1 Bk J l1 x1 r1 AS=> ?_)) ?_
 .exact MC uf cx x1 ha r1 AS
 .show (do let o <-attributeBase e (wd a) env (eval e env);_:Sem Value)=_
  rw[C3 hb]
theorem XU{m i:ME Fn}{e sl:Expr}{pos:Pos}(h:SE U xc C A X env Γ m e)(h2:SE U xc C A X env Γ i sl):SE U xc C A X env Γ (.idx m i) (.Subscript e sl pos):=by
 intro ρ H s vs Q E x eo hp
 refine Subscript_ (h ρ H s vs _ E x eo (hp.bnd (rel1:=Aq U) fun v H1 ρ1 v' h1 Bk J l1 x1 r1 AS=> ?_))
 refine h2 ρ1 H1 _ vs _ E x1 (eo.mono l1) (AS.bnd (rel1:=Aq U) fun k H2 ρ2 k' h2 tk2 J l2 x2 r2 Cb=> ?_)
 exact Vn x2 (r1.mono l2) r2 Cb
theorem Xm(cx:Cx U A X Ad n){a b:ME Fn}{l r:Expr}{op:U8}{pos:Pos}(h:SE U xc C A X env Γ a l)(h2:SE U xc C A X env Γ b r):SE U xc C A X env Γ (.bin op a b) (.BinOp l (SK op) r pos):=by
 intro ρ H s vs Q E x eo hp
 refine wpAny_BinOp (h ρ H s vs _ E x eo (hp.bnd (rel1:=Aq U) fun v H1 ρ1 v' h1 Bk J l1 x1 r1 AS=> ?_))
 refine h2 ρ1 H1 _ vs _ E x1 (eo.mono l1) (AS.bnd (rel1:=Aq U) fun k H2 ρ2 k' h2 tk2 J l2 x2 r2 Cb=> ?_)
 exact UP cx x2 (r1.mono l2) r2 Cb
theorem X9(cx:Cx U A X Ad n){a b:ME Fn}{l r:Expr}{op:VP}{pos:Pos}(hm:behindInMarks (LG op) r=false)(h:SE U xc C A X env Γ a l)(h2:SE U xc C A X env Γ b r):
  SE U xc C A X env Γ (.cmp op a b) (.Compare l [LG op] [r] pos):=by
 intro ρ H s vs Q E x eo hp
 refine wpAny_Compare1 (h ρ H s vs _ E x eo (hp.bnd (rel1:=Aq U) fun v H1 ρ1 v' h1 Bk J l1 x1 r1 AS=> ?_)) hm
 refine h2 ρ1 H1 _ vs _ E x1 (eo.mono l1) (AS.bnd (rel1:=Aq U) fun k H2 ρ2 k' h2 tk2 J l2 x2 r2 Cb=> ?_)
 refine US (xc:=xc) cx x2 (r1.mono l2) r2 (Cb.bnd (rel1:=dR) fun t H3 ρ3 t' h3 tk3 J l3 x3 r3 hp3=> ?_)
 exact AT (tk:=tk3) hp3 x3 r3
theorem Jr{m:ME Fn}{ρ:A8}{H:MH}{s:Shared}{vs:Mine.Env}{Q:Bool->Shared->Prop}{E:Value->Shared->Prop}(hp:Ae (fun J (t t':Bool)=>t'=t) U xc X ρ (bnd (Ac C m vs) AG H) Q E s):
  Ae (Aq U) U xc X ρ (Ac C m vs H) (fun v s'=>∃t,v=.bool t/\Q t s') E s:=by
 refine hp.bnd (rel1:=Aq U) fun v H1 ρ1 v' h1 Bk J l1 x1 r1 AS=> ?_
 cases v<;>first | exact AS.elim | skip
 cases r1
 exact⟨_,rfl,AS ρ1 _ h1 Bk (BE _) x1 rfl⟩
noncomputable def G3(e:Expr):Bool:= @Expr.casesOn (fun J=>Bool) e (fun J J J=>false) (fun J J J=>true) (fun J J J J=>true) (fun o J J=> !(o== .Not)) (fun J J J J=>true) (fun J J J J=>false) (fun J J J=>true) (fun J J J=>true) (fun J J J J=>true) (fun J J J J=>true) (fun J J J J J=>true) (fun J J J J=>true) (fun J J=>true) (fun J J=>true) (fun J J=>true) (fun J J J J=>false) (fun J J J J=>true) (fun J J J J=>true) (fun J J=>true) (fun J J J=>true) (fun J J J=>true) (fun J J J=>true) (fun J J=>true) (fun J J=>true) (fun J J=>true) (fun J J J=>true) (fun J J J J=>true)
theorem Lm{e:Expr}{env:PySem.Env}{whole:Sem Value}(h:G3 e=true):isTrue e env whole=(do
  let v <-whole
  standAt e.pos
  holding [v] (truthy v)):=by
 refine XA h ?_;clear h
 cases e<;>first | exact rfl | exact True.intro | (cases op<;>first | exact rfl | exact True.intro)
theorem Tg{m:ME Fn}{e:Expr}(hb:G3 e=true)(h:SE U xc C A X env Γ m e):ST U xc C A X env Γ m e:=by
 intro ρ H s vs Q E x eo hp
 rw[Lm hb]
 refine As (wpAny_mono (h ρ H s vs _ E x eo (Jr hp)) (fun v s' hv=> ?_) fun J J e=>e)
 obtain⟨t,rfl,hq⟩:=hv
 exact As (wpAny_standAt (wpAny_holding (wpAny_truthy_bool hq)))
noncomputable abbrev WW:A8->Bool->Bool->Prop:=fun J t t'=>t'=t
noncomputable def IM(b:Bool):BoolOp:=if b then .And else .Or
noncomputable def m2(b:Bool)(x y:ME Fn):ME Fn:=if b then .and2 x y else .or2 x y
theorem Pf(t:Bool)(a b:ME Fn):Ac C (m2 t a b) vs=bnd (Ac C a vs) fun x=>bnd (AG x) fun u=>if u=t then Ac C b vs else ret x:=by
 cases t
 .show (bnd (Ac C a vs) fun x=>bnd (AG x) fun t=>if t then ret x else Ac C b vs)=_
  refine congrArg _ (funext fun x=>congrArg _ (funext fun u=> ?_))
  cases u<;>rfl
 .rfl
noncomputable def cE(U:Un)(xc:Value)(C:Iv Fn)(A:Around)(X:Fx)(env:PySem.Env)(Γ:List Str)(op:BoolOp)(pos:Pos)(m:ME Fn)(es:List Expr):Prop:=
 ∀ρ H s vs Q E,AL U X ρ H s.heap->EO U X ρ env Γ vs->Ae (Aq U) U xc X ρ (Ac C m vs H) Q E s->wpAny (model U.prog U.w) A (boolOp pos op (evalEach es env)) Q E s
noncomputable def cG(U:Un)(xc:Value)(C:Iv Fn)(A:Around)(X:Fx)(env:PySem.Env)(Γ:List Str)(op:BoolOp)(m:ME Fn)(es:List Expr):Prop:=
 ∀ρ H s vs Q E,AL U X ρ H s.heap->EO U X ρ env Γ vs->Ae WW U xc X ρ (bnd (Ac C m vs) AG H) Q E s->wpAny (model U.prog U.w) A (allTrue op es env) Q E s
theorem O9{op:BoolOp}{pos:Pos}{m:ME Fn}{e:Expr}(h:SE U xc C A X env Γ m e):cE U xc C A X env Γ op pos m [e]:=h
theorem L4{op:BoolOp}{pos:Pos}{m:ME Fn}{es:List Expr}(h:SE U xc C A X env Γ m (.BoolOp op es pos)):cE U xc C A X env Γ op pos m es:=h
theorem Ly{op:BoolOp}{pos:Pos}{m:ME Fn}{es:List Expr}(h:ST U xc C A X env Γ m (.BoolOp op es pos)):cG U xc C A X env Γ op m es:=h
theorem O7{t:Bool}{m:ME Fn}{e:Expr}(h:ST U xc C A X env Γ m e):cG U xc C A X env Γ (IM t) m [e]:=by
 intro ρ H s vs Q E x eo hp
 show wpAny _ _ (do
  match IM t,<-isTrue e env (eval e env)with
  | .And,false=>pure false
  | .Or,true=>pure true
  | _,_=>allTrue (IM t) [] env) _ _ _
 refine As (wpAny_mono (h ρ H s vs _ E x eo hp) (fun v s' hv=> ?_) fun J J e=>e)
 cases t<;>cases v<;>exact BH hv
set_option tactic.hygienic true in
theorem Oy{t:Bool}{a b:ME Fn}{x y:Expr}{r:List Expr}{pos:Pos}(h:SE U xc C A X env Γ a x)(h2:cE U xc C A X env Γ (IM t) pos b (y::r)):
  SE U xc C A X env Γ (m2 t a b) (.BoolOp (IM t) (x::y::r) pos):=by
 intro ρ H s vs Q E hx eo hp
 rw[Pf]at hp
 show wpAny _ _ (do
  let v <-eval x env
  standAt pos
  let u <-holding [v] (truthy v)
  match IM t,u with
  | .And,false | .Or,true=>pure v
  | _,_=>boolOp pos (IM t) (evalEach (y::r) env)) _ _ _
 refine As (wpAny_mono (h ρ H s vs _ E hx eo (hp.bnd (rel1:=Aq U) fun v H1 ρ1 v' h1 Bk _ l1 x1 r1 AS=> ?_)) (fun v s' hv=>hv) fun _ _ e=>e)
 cases v<;>first | exact AS.elim | skip
 rename_i u _
 cases r1
 refine As (wpAny_standAt (As (wpAny_holding (wpAny_truthy_bool ?_))))
 replace AS:Ae (Aq U) U xc X ρ1 ((if u=t then Ac C b vs else Mine.ret (V.bool u)) H1) Q E _:=AS
 by_cases q:u=t
 .rw [if_pos q]at AS
  subst q
  have:=h2 ρ1 H1 _ vs _ E x1 (eo.mono l1) AS
  cases u<;>exact this
 .rw [if_neg q]at AS
  have:=Cq (tk:=Bk) AS x1 rfl
  cases t<;>cases u<;>first | exact absurd rfl q | exact BH this
set_option tactic.hygienic true in
theorem Tm(t:Bool)(a b:ME Fn):bnd (Ac C (m2 t a b) vs) AG H=bnd (Ac C a vs) (fun x=>bnd (AG x) fun u=>if u=t then bnd (Ac C b vs) AG else ret u) H:=by
 rw[Pf]
 simp only [bnd]
 cases Ac C a vs H with
 | ok x H1=>
  cases x<;>first | rfl | skip
  rename_i u
  show bnd (if u=t then Ac C b vs else Mine.ret (V.bool u)) AG H1=(if u=t then bnd (Ac C b vs) AG else Mine.ret u) H1
  by_cases q:u=t
  .rw [if_pos q,if_pos q]
  .rw [if_neg q,if_neg q];rfl
 | _=>rfl
theorem Pi{t:Bool}{a b:ME Fn}{x y:Expr}{r:List Expr}{pos:Pos}(h:ST U xc C A X env Γ a x)(h2:cG U xc C A X env Γ (IM t) b (y::r)):
  ST U xc C A X env Γ (m2 t a b) (.BoolOp (IM t) (x::y::r) pos):=by
 intro ρ H s vs Q E hx eo hp
 rw[Tm]at hp
 show wpAny _ _ (do
  match IM t,<-isTrue x env (eval x env)with
  | .And,false=>pure false
  | .Or,true=>pure true
  | _,_=>allTrue (IM t) (y::r) env) _ _ _
 have e:bnd (Ac C a vs) (fun x=>bnd (AG x) fun u=>if u=t then bnd (Ac C b vs) AG else ret u) H=bnd (bnd (Ac C a vs) AG) (fun u=>if u=t then bnd (Ac C b vs) AG else ret u) H:=W4.symm
 rw[e]at hp
 refine As (wpAny_mono (h ρ H s vs _ E hx eo (hp.bnd (rel1:=WW) fun u H1 ρ1 v' h1 Bk J l1 x1 r1 AS=> ?_)) (fun v s' hv=>hv) fun J J e=>e)
 cases(r1)
 by_cases q:u=t
 .rw [if_pos q]at AS
  subst q
  have:=h2 ρ1 H1 _ vs _ E x1 (eo.mono l1) AS
  cases u<;>exact this
 .rw [if_neg q]at AS
  have:=AT (tk:=Bk) AS x1 rfl
  cases t<;>cases u<;>first | exact absurd rfl q | exact BH this
theorem W7{m:ME Fn}{e:Expr}{pos:Pos}(h:ST U xc C A X env Γ m e):ST U xc C A X env Γ (.not m) (.UnaryOp .Not e pos):=by
 intro ρ H s vs Q E x eo hp
 have e1:bnd (Ac C (.not m) vs) AG H=bnd (bnd (Ac C m vs) AG) (fun t=>ret !t) H:=by
  show bnd (bnd (Ac C m vs) fun x=>bnd (AG x) fun t=>ret (.bool !t)) AG H=_
  simp only [bnd]
  cases Ac C m vs H with
  | ok v H1=>dsimp only;cases AG v H1<;>rfl
  | _=>rfl
 rw[e1]at hp
 show wpAny _ _ (do return !(<-isTrue e env (eval e env))) _ _ _
 refine As (wpAny_mono (h ρ H s vs _ E x eo (hp.bnd (rel1:=WW) fun u H1 ρ1 v' h1 Bk J l1 x1 r1 AS=> ?_)) (fun v s' hv=>BH hv) fun J J e=>e)
 cases r1
 exact AT (tk:=Bk) AS x1 rfl
theorem Xi{m:ME Fn}{e:Expr}{pos:Pos}(h:SE U xc C A X env Γ m e):SE U xc C A X env Γ (.not m) (.UnaryOp .Not e pos):=by
 intro ρ H s vs Q E x eo hp
 show wpAny _ _ (do let v <-eval e env;standAt pos;holding [v] (unaryOp .Not v)) _ _ _
 refine As (wpAny_mono (h ρ H s vs _ E x eo (hp.bnd (rel1:=Aq U) fun v H1 ρ1 v' h1 Bk J l1 x1 r1 AS=> ?_)) (fun v s' hv=>hv) fun J J e=>e)
 cases v<;>first | exact AS.elim | skip
 cases r1
 refine As (wpAny_standAt (wpAny_holding ?_))
 unfold unaryOp
 refine wpAny_holding ?_
 simp only [beq_self_eq_true,if_true]
 exact As (wpAny_truthy_bool (BH (AT (tk:=Bk) AS x1 rfl)))
theorem LT(c a b:ME Fn):Ac C (.ite c a b) vs=bnd (bnd (Ac C c vs) AG) fun t=>if t then Ac C a vs else Ac C b vs:=by
 show(bnd (Ac C c vs) fun x=>bnd (AG x) fun t=>if t then Ac C a vs else Ac C b vs)=_
 funext H
 simp only [bnd]
 cases Ac C c vs H<;>rfl
theorem Yp{c a b:ME Fn}{ec ea eb:Expr}{pos:Pos}(hc:ST U xc C A X env Γ c ec)(ha:SE U xc C A X env Γ a ea)(hb:SE U xc C A X env Γ b eb):
  SE U xc C A X env Γ (.ite c a b) (.IfExp ec ea eb pos):=by
 intro ρ H s vs Q E x eo hp
 rw[LT]at hp
 refine wpAny_IfExp (hc ρ H s vs _ E x eo (hp.bnd (rel1:=WW) fun u H1 ρ1 v' h1 Bk J l1 x1 r1 AS=> ?_))
 cases(r1)
 cases u
 .exact hb ρ1 H1 _ vs _ E x1 (eo.mono l1) AS
 .exact ha ρ1 H1 _ vs _ E x1 (eo.mono l1) AS
theorem XJ{c a b:ME Fn}{ec ea eb:Expr}{pos:Pos}(hc:ST U xc C A X env Γ c ec)(ha:ST U xc C A X env Γ a ea)(hb:ST U xc C A X env Γ b eb):
  ST U xc C A X env Γ (.ite c a b) (.IfExp ec ea eb pos):=by
 intro ρ H s vs Q E x eo hp
 have e1:bnd (Ac C (.ite c a b) vs) AG H=bnd (bnd (Ac C c vs) AG) (fun t=>if t then bnd (Ac C a vs) AG else bnd (Ac C b vs) AG) H:=by
  rw[LT]
  simp only [bnd]
  cases Ac C c vs H with
  | ok v H1=>dsimp only;cases AG v H1 with
   | ok t H2=>dsimp only;cases t<;>rfl
   | _=>rfl
  | _=>rfl
 rw[e1]at hp
 show wpAny _ _ (do
  if <-isTrue ec env (eval ec env)then isTrue ea env (eval ea env)else isTrue eb env (eval eb env)) _ _ _
 refine As (wpAny_mono (hc ρ H s vs _ E x eo (hp.bnd (rel1:=WW) fun u H1 ρ1 v' h1 Bk J l1 x1 r1 AS=> ?_)) (fun v s' hv=>hv) fun J J e=>e)
 cases(r1)
 cases u
 .exact hb ρ1 H1 _ vs _ E x1 (eo.mono l1) AS
 .exact ha ρ1 H1 _ vs _ E x1 (eo.mono l1) AS
theorem UN{k j:Nat}{p pos:Pos}:SE U xc C A X env Γ (.usub k) (.UnaryOp .USub (.Constant (.int k) j p) pos):=by
 intro ρ H s vs Q E x eo hp
 show wpAny _ _ (do let v <-eval (.Constant (.int k) j p) env;standAt pos;holding [v] (unaryOp .USub v)) _ _ _
 refine As (wpAny_Constant_int ?_)
 refine As (wpAny_standAt (wpAny_holding ?_))
 exact PyProof.Rows.neg_int (hp ρ _ s.heap _ (BE _) x ⟨_,rfl⟩)
theorem Tz(ek:AJ X Ad env ns)(gf:GF U X.G){nm:Str}{t:Tok}{pos:Pos}(hn:Df ns nm=true)(e:nsIn U.K mainGlobals nm=some (some (.int 1000000 t))):SE U xc C A X env Γ .gmax (.Name nm pos):=by
 intro ρ H s vs Q E x eo hp
 exact Dw ek gf x hn e (AT (tk:=s.toks) hp x ⟨_,rfl⟩)
theorem NM{v:V}{v':Value}(h:Aq U ρ v v'):(v'=.none↔v=.none):=by
 cases v<;>simp only [Aq,VR]at h
 all_goals first | (subst h;simp) | (obtain⟨t,rfl⟩:=h;simp) | (obtain⟨p,_,rfl⟩:=h;simp)
theorem Qd{neg:Bool}{m:ME Fn}{e:Expr}{k:Nat}{p pos:Pos}(h:SE U xc C A X env Γ m e):
  SE U xc C A X env Γ (.isNone neg m) (.Compare e [if neg then .IsNot else .Is] [.Constant .none k p] pos):=by
 intro ρ H s vs Q E x eo hp
 refine wpAny_Compare1 (h ρ H s vs _ E x eo (hp.bnd (rel1:=Aq U) fun v H1 ρ1 v' h1 Bk J l1 x1 r1 AS=> ?_)) (by cases neg<;>rfl)
 refine wpAny_Constant_none ?_
 have iff:=NM r1
 have fin:Q (.bool (xor neg (decide (v=.none)))) { s with heap:=h1,toks:=Bk}:=AT (tk:=Bk) AS x1 rfl
 have pl:plainIs v' .none=true:=by
  cases v<;>simp only [Aq,VR]at r1
  all_goals first | (subst r1;rfl) | (obtain⟨t,rfl⟩:=r1;rfl) | (obtain⟨p,_,rfl⟩:=r1;rfl)
 by_cases q:v=.none
 .have:v'=.none:=iff.mpr q
  subst this
  cases neg
  .exact wpAny_is_self pl (by simpa [q]using fin)
  .exact wpAny_isNot_self pl (by simpa [q]using fin)
 .have:v'≠.none:=fun e=>q (iff.mp e)
  cases neg
  .exact wpAny_is_other pl this (by simpa [q]using fin)
  .exact wpAny_isNot_other pl this (by simpa [q]using fin)
noncomputable def Ar(e:Expr):Bool:= @Expr.casesOn (fun J=>Bool) e (fun J J J=>true) (fun J J J=>true) (fun J J J J=>true) (fun J J J=>true) (fun J J J J=>true) (fun J J J J=>true) (fun J J J=>true) (fun J J J=>true) (fun J J J J=>true) (fun J J J J=>true) (fun J J J J J=>true) (fun J J J J=>true) (fun J J=>true) (fun J J=>true) (fun J J=>true) (fun J J J J=>true) (fun J J J J=>true) (fun J J J J=>true) (fun J J=>true) (fun J J J=>true) (fun J J J=>true) (fun J J J=>true) (fun J J=>false) (fun J J=>true) (fun J J=>true) (fun J J J=>true) (fun J J J J=>true)
theorem AH{e:Expr}{r:List Expr}{env:PySem.Env}(h:Ar e=true):starEach (e::r) env=(false,eval e env)::starEach r env:=by
 refine XA h ?_;clear h
 cases e<;>first | exact rfl | exact True.intro
theorem Sb{es:List Expr}{env:PySem.Env}{pos:Pos}(h:es.all Ar=true):(backTo pos (starEach es env)).any (·.1)=false:=by
 induction es with
 | nil=>rfl
 | cons e r ih=>
  rw[List.all_cons,DK]at h
  rw[AH h.1]
  show(false||(backTo pos (starEach r env)).any (·.1))=false
  rw[ih h.2];rfl
theorem SQ{es:List Expr}{env:PySem.Env}{pos:Pos}(h:es.all Ar=true):(backTo pos (starEach es env)).all (!·.1)=true:=by
 induction es with
 | nil=>rfl
 | cons e r ih=>
  rw[List.all_cons,DK]at h
  rw[AH h.1]
  show(true&&(backTo pos (starEach r env)).all (!·.1))=true
  rw[ih h.2];rfl
section
variable{M:Model}
theorem Au{P:Heap->Prop}{f:Value}{first:List Value}{es:List Expr}(hes:es.all Ar=true)(hk:∀h,P h->∃k,(k=Keeper.frame\/k=Keeper.machine\/k=Keeper.boundFrame)/\Looks M h (keeperOf f) k)
  (h:wpAny M A (spliced (backTo pos (starEach es env))) (fun vs s₁=>P s₁.heap/\wpAny M A (call f (first++vs)) Q E s₁) E s):
  wpAny M A (callWith pos f first (backTo pos (starEach es env)) []) Q E s:=by
 refine callWith_of (P:=P) (by rw[Sb hes];rfl) hk ?_
 cases es with
 | nil=>
  unfold evalArgs
  show wpAny M A (spliced [] >>= _) _ E s
  refine As (wpAny_mono h (fun vs s₁ h₁=> ?_) fun J J x=>x)
  refine As (BH ?_)
  refine wpAny_holding ?_
  exact As (BH (As (BH (BH h₁))))
 | cons e r=>
  rw[List.all_cons,DK]at hes
  rw[AH hes.1]at h ⊢
  exact evalArgs_plain h
theorem Du{T:String}(h:Heap)(_:True):∃k,(k=Keeper.frame\/k=Keeper.machine\/k=Keeper.boundFrame)/\Looks M h (keeperOf (.type T)) k:=⟨.machine,.inr (.inl rfl),Looks.of_pure rfl⟩
theorem CC{T:String}(h:Heap)(_:True):∃k,(k=Keeper.frame\/k=Keeper.machine\/k=Keeper.boundFrame)/\Looks M h (keeperOf (.builtin T)) k:=⟨.machine,.inr (.inl rfl),Looks.of_pure rfl⟩
theorem CM{o:Expr}{name:Str}{es:List Expr}(hb:A0 o=true)(hes:es.all Ar=true)(hn:es.length < 30)(hl:(apos.endLine==pos.line)=true)
  (h:wpAny M A (eval o env) (fun ov s₁=>∀pl,wpAny M A (getMethod ov name pl) (fun fx s₂=>wpAny M A (callWith pos fx.1 fx.2 (backTo pos (starEach es env)) []) Q E s₂) E s₁) E s):
  wpAny M A (eval (.Call (.Attribute o name apos) es [] pos) env) Q E s:=by
 show wpAny M A (do
  let ov <-attributeBase o name env (eval o env)
  standAt apos.atName
  methodCall o name apos pos env ov (es.length+0) (backTo pos (starEach es env)) []) Q E s
 rw[C3 hb]
 refine As (wpAny_mono h (fun ov s₁ h₁=>As (wpAny_standAt ?_)) fun J J x=>x)
 have hf:methodCallForm (es.length+0) (backTo pos (starEach es env)) ([]:List (Option Str×Sem Value))=true:=by
  unfold methodCallForm
  rw[SQ hes]
  simp;exact zz ‹_› (by rfl)
 unfold methodCall
 rw[hf]
 unfold calleeOf
 refine As (wpAny_holding ?_)
 simp only [if_true]
 refine wpAny_mono (h₁ _) (fun fx s₂ h₂=> ?_) fun J J x=>x
 have hp:methodCallPos true o env apos pos=pure pos:=by
  unfold methodCallPos
  rw[hl];rfl
 rw[hp]
 exact As (BH h₂)
theorem By{np:Pos}{nm:Str}{es:List Expr}(h:wpAny M A (eval (.Name nm np) env) (fun f s₁=>wpAny M A (callWith pos f [] (backTo pos (starEach es env)) []) Q E s₁) E s):wpAny M A (eval (.Call (.Name nm np) es [] pos) env) Q E s:=
 wpAny_Call_ofName h
end
noncomputable abbrev Od(U:Un):A8->List V->List Value->Prop:=C1 U.sa
noncomputable def OS(U:Un)(xc:Value)(C:Iv Fn)(A:Around)(X:Fx)(env:PySem.Env)(Γ:List Str)(ms:List (ME Fn))(es:List Expr):Prop:=
 ∀pos ρ H s vs Q E,AL U X ρ H s.heap->EO U X ρ env Γ vs->Ae (Od U) U xc X ρ (Et C ms vs H) Q E s->wpAny (model U.prog U.w) A (spliced (backTo pos (starEach es env))) Q E s
theorem Ks:OS U xc C A X env Γ [] []:=by
 intro pos ρ H s vs Q E x eo hp
 exact wpAny_items_nil (hp ρ [] s.heap s.toks (BE _) x trivial)
theorem Jm{m:ME Fn}{ms:List (ME Fn)}{e:Expr}{es:List Expr}(hs:Ar e=true)(h:SE U xc C A X env Γ m e)(h2:OS U xc C A X env Γ ms es):OS U xc C A X env Γ (m::ms) (e::es):=by
 intro pos ρ H s vs Q E x eo hp
 refine spliced_more (h ρ H s vs _ E x eo (hp.bnd (rel1:=Aq U) fun v H1 ρ1 v' h1 Bk J l1 x1 r1 AS=> ?_)) (AH hs)
 refine h2 pos ρ1 H1 _ vs _ E x1 (eo.mono l1) (AS.bnd (rel1:=Od U) fun k H2 ρ2 k' h2 tk2 J l2 x2 r2 Cb=> ?_)
 exact Cb ρ2 (v'::k') h2 tk2 (BE _) x2 ⟨r1.mono l2,r2⟩
theorem WR(gf:GF U X.G){ms:List (ME Fn)}{es:List Expr}{pos:Pos}(h:OS U xc C A X env Γ ms es):SE U xc C A X env Γ (.lst ms) (.List es pos):=by
 intro ρ H s vs Q E x eo hp
 refine List_ (h pos ρ H s vs _ E x eo (hp.bnd (rel1:=Od U) fun v H1 ρ1 v' h1 Bk J l1 x1 r1 AS=> ?_))
 by_cases hl:v.length<=BR
 .rw [if_pos hl]at AS
  exact Uc gf x1 r1 hl AS
 .rw [if_neg hl]at AS;exact AS.elim
theorem WN(gf:GF U X.G){ms:List (ME Fn)}{es:List Expr}{k:Nat}{pos:Pos}(h:OS U xc C A X env Γ ms es):SE U xc C A X env Γ (.tup ms) (.Tuple es k pos):=by
 intro ρ H s vs Q E x eo hp
 refine Tuple_ (h pos ρ H s vs _ E x eo (hp.bnd (rel1:=Od U) fun v H1 ρ1 v' h1 Bk J l1 x1 r1 AS=> ?_))
 by_cases hl:v.length<=BR
 .rw [if_pos hl]at AS
  exact UX gf x1 r1 hl AS
 .rw [if_neg hl]at AS;exact AS.elim
theorem UQ(gf:GF U X.G){pos:Pos}:SE U xc C A X env Γ .dct0 (.Dict [] [] pos):=by
 intro ρ H s vs Q E x eo hp
 exact Qq gf x hp
theorem Ra(gf:GF U X.G){pos:Pos}:SE U xc C A X env Γ .dct0I (.Dict [] [] pos):=by
 intro ρ H s vs Q E x eo hp
 exact Py gf x hp
theorem RY{α β:Type}{rel:A8->α->β->Prop}{Q:β->Shared->Prop}{v:V}{c:Af}{f:Unit->M α}(hp:Ae rel U xc X ρ (bnd (stays v c) f H) Q E s):∃i,v=.ref i/\H[i]? =some c/\Ae rel U xc X ρ (f () H) Q E s:=
 Bu (P:=fun v=>∃i,v=.ref i/\H[i]? =some c/\Ae rel U xc X ρ (f () H) Q E s) hp.as fun i c' e hp=>FW hp fun q hp=>⟨i,rfl,by rw[e,q],hp⟩
theorem TL(gf:GF U X.G){k:Nat}{m:ME Fn}{e:Expr}{j:Nat}{p pos:Pos}(h:SE U xc C A X env Γ m e):SE U xc C A X env Γ (.dct1 k m) (.Dict [some (.Constant (.str (wd k)) j p)] [e] pos):=by
 intro ρ H s vs Q E x eo hp
 refine wpAny_Dict_pairs (knd:=PySem.strKind U.prog U.w) (pairs:=[(eval (.Constant (.str (wd k)) j p) env,do let x <-eval e env;standAt pos;pure x)]) rfl (by simp) (by simp) ?_
 obtain⟨l,N,_,_,kk⟩:=FS.made (xc:=xc) (E:=E) (Q:=fun v s₁=>v=.ref s.heap.objs.size->wpAny (model U.prog U.w) A (evalPairs [(eval (.Constant (.str (wd k)) j p) env,do let x <-eval e env;standAt pos;pure x)]) (fun vs s₁=>∃kvs,Carries (PySem.strKind U.prog U.w) vs kvs/\s₁.heap.DictOf (PySem.strKind U.prog U.w) s.heap.objs.size []/\
   ∀h',h'.DictOf (PySem.strKind U.prog U.w) s.heap.objs.size (merged [] kvs)->Heap.SameBut s.heap.objs.size s₁.heap h'->Q (.ref s.heap.objs.size) { s₁ with heap:=h',toks:=s₁.toks+vs.length}) E s₁) gf x
 refine kk (o:={ cls:= .type "dict",data:= .dict #[]}) (tk:=s.toks) (hp.bnd (rel1:=Aq U) fun d H1 ρ1 d' h1 Bk ha l1 x1 r1 AS=> ?_) (x.fr.push _) (N.push x.fr _) ?_ rfl
 .rintro rfl
  refine evalPairs_cons (wpAny_Constant_str ?_)
  refine As (h ρ1 H1 _ vs _ E x1 (eo.mono l1) (AS.bnd (rel1:=Aq U) fun v H2 ρ2 v' h2 tk2 J l2 x2 r2 Cb=> ?_))
  refine As (wpAny_standAt (BH (evalPairs_nil ?_)))
  obtain⟨i,rfl,hc,hp3⟩:=RY Cb
  obtain⟨a,o,news,g,e1,lo,⟨o₂,es,e2,hd,vd⟩,N2,hm,up,back⟩:=FS.oneCell (s:={ s with heap:=h2,toks:=tk2}) x2 hc (fun J J=>by simp)
  cases e2
  have hes:es=[]:=by cases es with | nil=>rfl | cons _ _=>exact vd.elim
  subst hes
  obtain⟨pp,e3,e4⟩:=r1
  have e5:ρ2[i]? =some pp:=Dh l2 e3
  rw[e1]at e5
  cases e5
  have e6:s.heap.objs.size=a.1:=Value.ref.inj e4
  obtain⟨pre,post,rfl,hg,a1,b1⟩:=up.split
  have hmem:=N2 (a.1,o) (C9 _ (.head _))
  refine⟨[(wd k,v')],⟨strKind_is _ _ _ _,rfl,trivial⟩,by rw[e6];exact Heap.dictOf_iff.mpr ⟨o,hmem.1,hd⟩,fun h' hD hs=> ?_⟩
  rw[e6]at hD hs ⊢
  obtain⟨o',ho',hd'⟩:=Heap.dictOf_iff.mp hD
  refine hp3 ρ2 (.ref a.1) h' _ (BE _) (back (.dictW [(k,v)]) o' h' ⟨o',[(wd k,v')],rfl,hd',rfl,r2,trivial⟩ (x2.fr.change hs hmem.2.1 hmem.2.2) (hg o'▸N2.setIn a1 b1 hs ho')) ⟨a,e1,rfl⟩
 .refine ⟨_,[],rfl,?_,trivial⟩
  obtain⟨o,ho,hd⟩:=Heap.dictOf_iff.mp (Heap.DictOf.new (knd:=PySem.strKind U.prog U.w) s.heap)
  rw[Heap.get?_push_size _ rfl]at ho
  cases ho
  exact hd
noncomputable def EJ:List String:=["len","isinstance","max","range","list","dict","str","int"]
noncomputable def FD:Dz->String
 | .null=>"Null" | .vector=>"Vector"
structure UB(U:Un):Prop where
 blt:∀nm,nm ∈ EJ->nsIn U.K mainGlobals (Str.ofString nm)=some none
 cls:∀c,nsIn U.K mainGlobals (Str.ofString (FD c))=some (some (.ref (U.cls c)))
noncomputable abbrev XQ(f:Value):Prop:=∀(M:Model) (h:Heap),True->∃k,(k=Keeper.frame\/k=Keeper.machine\/k=Keeper.boundFrame)/\Looks M h (keeperOf f) k
theorem GN(ek:AJ X Ad env ns)(gf:GF U X.G)(ub:UB U){nm:String}(hm:nm ∈ EJ){f:Value}(hn:Df ns (Str.ofString nm)=true)(hv:bootBuiltins (Str.ofString nm)=some f)(hn':Str.ofString nm≠"__name__")(kp:XQ f)
  {m mm:ME Fn} {e:Expr} (hs:Ar e=true) {op:V->M V} (he:∀vs,Ac C mm vs=bnd (Ac C m vs) op) (h:SE U xc C A X env Γ m e)
  (hop:∀ρ H s v v' Q E,AL U X ρ H s.heap->Aq U ρ v v'->Ae (Aq U) U xc X ρ (op v H) Q E s->wpAny (model U.prog U.w) A (call f [v']) Q E s):
  SE U xc C A X env Γ mm (.Call (.Name (Str.ofString nm) np) [e] [] pos):=by
 intro ρ H s vs Q E x eo hp
 rw[he]at hp
 refine By (BN ek gf x hn (ub.blt nm hm) hv hn' ?_)
 refine Au (P:=fun J=>True) (by simp[hs]) (kp _) ?_
 refine Jm hs h Ks pos ρ H _ vs _ E x eo ?_
 show Ae (Od U) U xc X ρ (bnd (Ac C m vs) (fun v=>bnd (ret []) fun vs=>ret (v::vs)) H) _ E s
 unfold Ae at hp ⊢
 simp only [bnd]at hp ⊢
 cases q:Ac C m vs H with
 | ok v H1=>
  rw[q]at hp
  dsimp only at hp ⊢
  intro ρ1 l h1 Bk l1 x1 r1
  obtain⟨y,rfl⟩:∃y,l=[y]:=by
   cases l with
   | nil=>exact r1.elim
   | cons y r=>cases r with | nil=>exact⟨y,rfl⟩ | cons _ _=>exact r1.2.elim
  refine⟨trivial,hop ρ1 H1 { s with heap:=h1,toks:=Bk} v y Q E x1 r1.1 ?_⟩
  unfold Ae
  cases q2:op v H1 with
  | ok a H2=>rw[q2]at hp;exact fun ρ' v' h' CG l'=>hp ρ' v' h' CG (l1.trans l')
  | exc e H2=>rw[q2]at hp;exact fun ρ' v' h' CG l'=>hp ρ' v' h' CG (l1.trans l')
  | bad=>rw[q2]at hp;exact hp
 | exc e H1=>rw[q]at hp;exact hp
 | bad=>rw[q]at hp;exact hp
theorem V3{m1 m2:ME Fn}{e1 e2:Expr}{op:V->V->M V}(s1:Ar e1=true)(s2:Ar e2=true)(h1:SE U xc C A X env Γ m1 e1)(h2:SE U xc C A X env Γ m2 e2){f:Value}{first:List Value}
  (x:AL U X ρ H s.heap) (eo:EO U X ρ env Γ vs) (hp:Ae (Aq U) U xc X ρ (bnd (Ac C m1 vs) (fun x=>bnd (Ac C m2 vs) fun y=>op x y) H) Q E s)
  (hop:∀ρ' H s v1 v2 v1' v2' Q E,ρ <+:ρ'->AL U X ρ' H s.heap->Aq U ρ' v1 v1'->Aq U ρ' v2 v2'->Ae (Aq U) U xc X ρ' (op v1 v2 H) Q E s->wpAny (model U.prog U.w) A (call f (first++[v1',v2'])) Q E s):
  wpAny (model U.prog U.w) A (spliced (backTo pos (starEach [e1,e2] env))) (fun vs s₁=>True/\wpAny (model U.prog U.w) A (call f (first++vs)) Q E s₁) E s:=by
 refine spliced_more (h1 ρ H s vs _ E x eo (hp.bnd (rel1:=Aq U) fun v H1 ρ1 v' h1 Bk J l1 x1 r1 AS=> ?_)) (AH s1)
 refine spliced_more (h2 ρ1 H1 _ vs _ E x1 (eo.mono l1) (AS.bnd (rel1:=Aq U) fun w H2 ρ2 w' h2 tk2 J l2 x2 r2 Cb=> ?_)) (AH s2)
 exact wpAny_items_nil ⟨trivial,hop ρ2 H2 _ v w v' w' Q E (l1.trans l2) x2 (r1.mono l2) r2 Cb⟩
theorem O8{m1:ME Fn}{e1:Expr}{op:V->M V}(s1:Ar e1=true)(h1:SE U xc C A X env Γ m1 e1){f:Value}{first:List Value}
  (x:AL U X ρ H s.heap) (eo:EO U X ρ env Γ vs) (hp:Ae (Aq U) U xc X ρ (bnd (Ac C m1 vs) op H) Q E s)
  (hop:∀ρ' H s v1 v1' Q E,ρ <+:ρ'->AL U X ρ' H s.heap->Aq U ρ' v1 v1'->Ae (Aq U) U xc X ρ' (op v1 H) Q E s->wpAny (model U.prog U.w) A (call f (first++[v1'])) Q E s):
  wpAny (model U.prog U.w) A (spliced (backTo pos (starEach [e1] env))) (fun vs s₁=>True/\wpAny (model U.prog U.w) A (call f (first++vs)) Q E s₁) E s:=by
 refine spliced_more (h1 ρ H s vs _ E x eo (hp.bnd (rel1:=Aq U) fun v H1 ρ1 v' h1 Bk J l1 x1 r1 AS=> ?_)) (AH s1)
 exact wpAny_items_nil ⟨trivial,hop ρ1 H1 _ v v' Q E l1 x1 r1 AS⟩
theorem C0{nm:String}(hm:nm ∈ EJ):Str.ofString nm≠"__name__":=by
 simp only [EJ,List.mem_cons,List.not_mem_nil,or_false]at hm
 rcases hm with rfl | rfl | rfl | rfl | rfl | rfl | rfl | rfl<;>decide
theorem YE(ek:AJ X Ad env ns)(gf:GF U X.G)(ub:UB U)(hn:Df ns "len"=true){m:ME Fn}{e:Expr}(hs:Ar e=true)(h:SE U xc C A X env Γ m e):
  SE U xc C A X env Γ (.len m) (.Call (.Name "len" np) [e] [] pos):=
 GN ek gf ub (nm:="len") (by decide) hn rfl (C0 (by decide)) (fun J=>CC) hs (op:=TN) (fun vs=>rfl) h (fun ρ H s v v' Q E x hv hp=>UU x hv hp)
theorem PE(ek:AJ X Ad env ns)(gf:GF U X.G)(ub:UB U)(hn:Df ns "list"=true){m:ME Fn}{e:Expr}(hs:Ar e=true)(h:SE U xc C A X env Γ m e):
  SE U xc C A X env Γ (.listOf m) (.Call (.Name "list" np) [e] [] pos):=
 GN ek gf ub (nm:="list") (by decide) hn rfl (C0 (by decide)) (fun J=>Du) hs (op:=Pj) (fun vs=>rfl) h (fun ρ H s v v' Q E x hv hp=>ND gf x hv hp)
theorem Pz(ek:AJ X Ad env ns)(gf:GF U X.G)(ub:UB U)(hn:Df ns "dict"=true){m:ME Fn}{e:Expr}(hs:Ar e=true)(h:SE U xc C A X env Γ m e):
  SE U xc C A X env Γ (.dictOf m) (.Call (.Name "dict" np) [e] [] pos):=
 GN ek gf ub (nm:="dict") (by decide) hn rfl (C0 (by decide)) (fun J=>Du) hs (op:=Oz) (fun vs=>rfl) h (fun ρ H s v v' Q E x hv hp=>Oj gf x hv hp)
theorem R2(ek:AJ X Ad env ns)(gf:GF U X.G)(ub:UB U)(hn:Df ns "str"=true){m:ME Fn}{e:Expr}(hs:Ar e=true)(h:SE U xc C A X env Γ m e):
  SE U xc C A X env Γ (.strOf m) (.Call (.Name "str" np) [e] [] pos):=
 GN ek gf ub (nm:="str") (by decide) hn rfl (C0 (by decide)) (fun J=>Du) hs (op:=UH) (fun vs=>rfl) h (fun ρ H s v v' Q E x hv hp=>T7 x hv hp)
theorem Vu(cx:Cx U A X Ad n)(ek:AJ X Ad env ns)(ub:UB U)(hn:Df ns "max"=true){m1 m2:ME Fn}{e1 e2:Expr}(s1:Ar e1=true)(s2:Ar e2=true)(h1:SE U xc C A X env Γ m1 e1)(h2:SE U xc C A X env Γ m2 e2):
  SE U xc C A X env Γ (.max2 m1 m2) (.Call (.Name "max" np) [e1,e2] [] pos):=by
 intro ρ H s vs Q E x eo hp
 refine By (BN ek cx.gf x hn (ub.blt "max" (by decide)) rfl (C0 (nm:="max") (by decide)) ?_)
 refine Au (P:=fun J=>True) (by simp[s1,s2]) CC ?_
 exact V3 s1 s2 h1 h2 (first:=[]) x eo hp fun ρ' H s v1 v2 v1' v2' Q E J x r1 r2 hp=>VM cx x r1 r2 hp
theorem HE{nm:Str}{v:Value}{m:ME Fn}{e:Expr}{op:V->M V}{p2:Pos}(s1:Ar e=true)(h1:SE U xc C A X env Γ m e)
  (x:AL U X ρ H s.heap) (eo:EO U X ρ env Γ vs) (hp:Ae (Aq U) U xc X ρ (bnd (Ac C m vs) op H) Q E s)
  (h2:∀ρ' H s Q,AL U X ρ' H s.heap->Q v s->wpAny (model U.prog U.w) A (eval (.Name nm p2) env) Q E s)
  (hop:∀ρ' H s v1 v1' Q,AL U X ρ' H s.heap->Aq U ρ' v1 v1'->Ae (Aq U) U xc X ρ' (op v1 H) Q E s->wpAny (model U.prog U.w) A (call (.builtin "isinstance") [v1',v]) Q E s):
  wpAny (model U.prog U.w) A (spliced (backTo pos (starEach [e,.Name nm p2] env))) (fun vs s₁=>True/\wpAny (model U.prog U.w) A (call (.builtin "isinstance") ([]++vs)) Q E s₁) E s:=by
 refine spliced_more (h1 ρ H s vs _ E x eo (hp.bnd (rel1:=Aq U) fun v H1 ρ1 v' h1 Bk J l1 x1 r1 AS=> ?_)) (AH s1)
 refine spliced_more (h2 ρ1 H1 _ _ x1 ?_) (AH rfl)
 exact wpAny_items_nil ⟨trivial,hop ρ1 H1 _ v v' Q x1 r1 AS⟩
theorem Xq(gf:GF U X.G)(ek:AJ X Ad env ns)(ub:UB U)(hn:Df ns "isinstance"=true)(hn2:Df ns "Vector"=true){m:ME Fn}{e:Expr}{p2:Pos}(hs:Ar e=true)(h:SE U xc C A X env Γ m e):
  SE U xc C A X env Γ (.isV m) (.Call (.Name "isinstance" np) [e,.Name "Vector" p2] [] pos):=by
 intro ρ H s vs Q E x eo hp
 refine By (BN ek gf x hn (ub.blt "isinstance" (by decide)) rfl (C0 (nm:="isinstance") (by decide)) ?_)
 refine Au (P:=fun J=>True) (by rw[List.all_cons,hs];rfl) CC ?_
 exact HE hs h x eo hp (fun ρ' H s Q x hq=>Dw ek gf x hn2 (ub.cls .vector) hq) fun ρ' H s v1 v1' Q x r hp=>UV x gf r hp
theorem Xd(uf:UF U)(ug:UG U)(gf:GF U X.G)(ek:AJ X Ad env ns)(ub:UB U){t:Ty}(hn:Df ns "isinstance"=true)(hn2:Df ns (Str.ofString (Hb t))=true){m:ME Fn}{e:Expr}{p2:Pos}(hs:Ar e=true)(h:SE U xc C A X env Γ m e):
  SE U xc C A X env Γ (.isT m t) (.Call (.Name "isinstance" np) [e,.Name (Str.ofString (Hb t)) p2] [] pos):=by
 intro ρ H s vs Q E x eo hp
 refine By (BN ek gf x hn (ub.blt "isinstance" (by decide)) rfl (C0 (nm:="isinstance") (by decide)) ?_)
 refine Au (P:=fun J=>True) (by rw[List.all_cons,hs];rfl) CC ?_
 refine HE (v:= .type (Hb t)) hs h x eo hp (fun ρ' H s Q x hq=> ?_) fun ρ' H s v1 v1' Q x r hp=>VF ug x uf gf r hp
 cases t
 .exact BN ek gf x hn2 (ub.blt "str" (by decide)) rfl (C0 (nm:="str") (by decide)) hq
 .exact BN ek gf x hn2 (ub.blt "int" (by decide)) rfl (C0 (nm:="int") (by decide)) hq
 .exact BN ek gf x hn2 (ub.blt "list" (by decide)) rfl (C0 (nm:="list") (by decide)) hq
theorem MU{α:Type}{i:Nat}{k:Nat->Af->M α}(h:∀c,H[i]? =some c->k i c H=.bad):Jz (.ref i) k H=.bad:=by
 show bnd (B6 (.ref i)) (k i) H=.bad
 cases e:H[i]? with
 | none=>unfold bnd;rw[show B6 (.ref i) H=.bad by show Co H[i]? H=_;rw[e];rfl]
 | some c=>rw[C7 e];exact h c e
section
variable{α β:Type}{rel:A8->α->β->Prop}{Q:β->Shared->Prop}{v:V}
theorem UZ{f:Unit->M α}(hp:Ae rel U xc X ρ (bnd (Qn v) f H) Q E s):∃i xs,v=.ref i/\H[i]? =some (.list xs)/\Ae rel U xc X ρ (f () H) Q E s:=
 Bu (P:=fun v=>∃i xs,v=.ref i/\H[i]? =some (.list xs)/\Ae rel U xc X ρ (f () H) Q E s) hp.as fun i c e hp=>by
  cases c with
  | list xs=>exact⟨i,xs,rfl,e,hp⟩
  | _=>exact hp.elim
theorem OO{f:Unit->M α}(hp:Ae rel U xc X ρ (bnd (VC v) f H) Q E s):∃i xs,v=.ref i/\H[i]? =some (.dictW xs)/\Ae rel U xc X ρ (f () H) Q E s:=
 Bu (P:=fun v=>∃i xs,v=.ref i/\H[i]? =some (.dictW xs)/\Ae rel U xc X ρ (f () H) Q E s) hp.as fun i c e hp=>by
  cases c with
  | dictW xs=>exact⟨i,xs,rfl,e,hp⟩
  | _=>exact hp.elim
theorem Uo{f:Bool->M α}(hp:Ae rel U xc X ρ (bnd (Xw v) f H) Q E s):∃i t xs,v=.ref i/\H[i]? =some (if t then .tup xs else .list xs)/\Ae rel U xc X ρ (f t H) Q E s:=
 Bu (P:=fun v=>∃(i:Nat) (t:Bool) (xs:List V),v=.ref i/\H[i]? =some (if t then .tup xs else .list xs)/\Ae rel U xc X ρ (f t H) Q E s) hp.as fun i c e hp=>by
  cases c with
  | list xs=>exact⟨i,false,xs,rfl,e,hp⟩
  | tup xs=>exact⟨i,true,xs,rfl,e,hp⟩
  | _=>exact hp.elim
theorem Ud{f:Unit->M α}(hp:Ae rel U xc X ρ (bnd (XT v) f H) Q E s):∃i,v=.w i/\Ae rel U xc X ρ (f () H) Q E s:=Lr (P:=fun v=>∃i,v=.w i/\Ae rel U xc X ρ (f () H) Q E s) hp fun i hp=>⟨i,rfl,hp⟩
end
theorem Jg(x:AL U X ρ H s.heap){i:Nat}{xs:List V}{v':Value}(hc:H[i]? =some (.list xs))(hv:Aq U ρ (.ref i) v'){name:Str}{id:String}(slot:Slot "list" name id)(hty:typeOf (.builtin id)=pure (.type "method_descriptor")){pl:Sem Bool}{Q:Value×List Value->Shared->Prop}
  (h:Q (.builtin id,[v']) s):wpAny (model U.prog U.w) A (getMethod v' name pl) Q E s:=by
 obtain⟨a,vs,n,news,e1,Ec,N,hm,_⟩:=FS.listCell x hc
 obtain⟨p,ep,rfl⟩:=hv
 rw[e1]at ep;cases ep
 exact kl_method N hm slot hty h
theorem MD(x:AL U X ρ H s.heap){i:Nat}{xs:List (Nat×V)}{v':Value}(hc:H[i]? =some (.dictW xs))(hv:Aq U ρ (.ref i) v'){pl:Sem Bool}{Q:Value×List Value->Shared->Prop}
  (h:Q (.builtin "dict.get",[v']) s):wpAny (model U.prog U.w) A (getMethod v' "get" pl) Q E s:=by
 obtain⟨a,o,news,g,e1,lo,⟨o₂,es,e2,hd,vd⟩,N,hm,up,back⟩:=FS.oneCell x hc (fun J J=>by simp)
 cases e2
 obtain⟨p,ep,rfl⟩:=hv
 rw[e1]at ep;cases ep
 exact kdg_method (knd:=PySem.strKind U.prog U.w) N hm hd h
theorem Lz(op:V->V->M V){name:Str}{id:String}(slot:Slot "list" name id)(hty:typeOf (.builtin id)=pure (.type "method_descriptor"))
  {m1 m2 mm:ME Fn} {o e:Expr} (hb:A0 o=true) (hl:(apos.endLine==pos.line)=true) (s2:Ar e=true) (he:∀vs,Ac C mm vs=bnd (Ac C m1 vs) fun x=>bnd (Qn x) fun J=>bnd (Ac C m2 vs) fun y=>op x y)
  (h1:SE U xc C A X env Γ m1 o) (h2:SE U xc C A X env Γ m2 e)
  (hop:∀ρ' H s v1 v2 v1' v2' Q E,AL U X ρ' H s.heap->Aq U ρ' v1 v1'->Aq U ρ' v2 v2'->Ae (Aq U) U xc X ρ' (op v1 v2 H) Q E s->wpAny (model U.prog U.w) A (call (.builtin id) [v1',v2']) Q E s):
  SE U xc C A X env Γ mm (.Call (.Attribute o name apos) [e] [] pos):=by
 intro ρ H s vs Q E x eo hp
 rw[he]at hp
 refine CM hb (by simp[s2]) (by simp) hl ?_
 refine h1 ρ H s vs _ E x eo (hp.bnd (rel1:=Aq U) fun v H1 ρ1 v' h1 Bk J l1 x1 r1 AS=> ?_)
 intro pl
 obtain⟨i,xs,rfl,hc,Cb⟩:=UZ AS
 refine Jg (s:={ s with heap:=h1,toks:=Bk}) x1 hc r1 slot hty ?_
 refine Au (P:=fun J=>True) (by simp[s2]) CC ?_
 exact O8 s2 h2 (first:=[v']) x1 (eo.mono l1) Cb fun ρ' H s v2 v2' Q E l x r2 hp=>hop ρ' H s _ v2 v' v2' Q E x (r1.mono l) r2 hp
theorem MM(op:V->M V){name:Str}{id:String}(slot:Slot "list" name id)(hty:typeOf (.builtin id)=pure (.type "method_descriptor"))
  {m1 mm:ME Fn} {o:Expr} (hb:A0 o=true) (hl:(apos.endLine==pos.line)=true) (he:∀vs,Ac C mm vs=bnd (Ac C m1 vs) op) (hlist:∀v H,(∀i xs,v=.ref i->H[i]?≠some (.list xs))->op v H=.bad)
  (h1:SE U xc C A X env Γ m1 o)
  (hop:∀ρ' H s v1 v1' Q E,AL U X ρ' H s.heap->Aq U ρ' v1 v1'->Ae (Aq U) U xc X ρ' (op v1 H) Q E s->wpAny (model U.prog U.w) A (call (.builtin id) [v1']) Q E s):
  SE U xc C A X env Γ mm (.Call (.Attribute o name apos) [] [] pos):=by
 intro ρ H s vs Q E x eo hp
 rw[he]at hp
 refine CM hb rfl (by simp) hl ?_
 refine h1 ρ H s vs _ E x eo (hp.bnd (rel1:=Aq U) fun v H1 ρ1 v' h1 Bk J l1 x1 r1 AS=> ?_)
 intro pl
 by_cases q:∃i xs,v=.ref i/\H1[i]? =some (.list xs)
 .obtain ⟨i,xs,rfl,hc⟩:=q
  refine Jg (s:={ s with heap:=h1,toks:=Bk}) x1 hc r1 slot hty ?_
  refine Au (P:=fun J=>True) rfl CC ?_
  exact wpAny_items_nil ⟨trivial,hop ρ1 H1 _ _ v' Q E x1 r1 AS⟩
 .rw [hlist v H1 fun i xs e e2=>q ⟨i,xs,e,e2⟩]at AS
  exact AS.elim
theorem PS{m1 m2:ME Fn}{o e:Expr}(hb:A0 o=true)(hl:(apos.endLine==pos.line)=true)(s2:Ar e=true)(h1:SE U xc C A X env Γ m1 o)(h2:SE U xc C A X env Γ m2 e):
  SE U xc C A X env Γ (.append m1 m2) (.Call (.Attribute o "append" apos) [e] [] pos):=
 Lz Ib slot_list_append (by first | exact PySem.F.type_list_append | exact type_list_append) hb hl s2 (fun vs=>rfl) h1 h2 fun ρ' H s v1 v2 v1' v2' Q E x r1 r2 hp=>Np x r1 r2 hp
theorem P5{m1 m2:ME Fn}{o e:Expr}(hb:A0 o=true)(hl:(apos.endLine==pos.line)=true)(s2:Ar e=true)(h1:SE U xc C A X env Γ m1 o)(h2:SE U xc C A X env Γ m2 e):
  SE U xc C A X env Γ (.extend m1 m2) (.Call (.Attribute o "extend" apos) [e] [] pos):=
 Lz CI PySem.F.slot_list_extend PySem.F.type_list_extend hb hl s2 (fun vs=>rfl) h1 h2 fun ρ' H s v1 v2 v1' v2' Q E x r1 r2 hp=>No x r1 r2 hp
theorem WU{m1:ME Fn}{o:Expr}(hb:A0 o=true)(hl:(apos.endLine==pos.line)=true)(h1:SE U xc C A X env Γ m1 o):
  SE U xc C A X env Γ (.pop m1) (.Call (.Attribute o "pop" apos) [] [] pos):=
 MM Ul PySem.F.slot_list_pop PySem.F.type_list_pop hb hl (fun vs=>rfl) (fun v H hn=>by
  cases v with
  | ref i=>
   refine MU fun c e=> ?_
   cases c with
   | list=>exact absurd e (hn i _ rfl)
   | _=>rfl
  | _=>rfl) h1 fun ρ' H s v1 v1' Q E x r1 hp=>Vc x r1 hp
theorem NV{m1:ME Fn}{o:Expr}(hb:A0 o=true)(hl:(apos.endLine==pos.line)=true)(h1:SE U xc C A X env Γ m1 o):
  SE U xc C A X env Γ (.reverse m1) (.Call (.Attribute o "reverse" apos) [] [] pos):=
 MM Gv PySem.F.slot_list_reverse PySem.F.type_list_reverse hb hl (fun vs=>rfl) (fun v H hn=>by
  cases v with
  | ref i=>
   refine MU fun c e=> ?_
   cases c with
   | list=>exact absurd e (hn i _ rfl)
   | _=>rfl
  | _=>rfl) h1 fun ρ' H s v1 v1' Q E x r1 hp=>L6 x r1 hp
theorem Ts{m1 m2:ME Fn}{o e:Expr}(hb:A0 o=true)(hl:(apos.endLine==pos.line)=true)(s2:Ar e=true)(h1:SE U xc C A X env Γ m1 o)(h2:SE U xc C A X env Γ m2 e):
  SE U xc C A X env Γ (.index m1 m2) (.Call (.Attribute o "index" apos) [e] [] pos):=by
 intro ρ H s vs Q E x eo hp
 refine CM hb (by simp[s2]) (by simp) hl ?_
 refine h1 ρ H s vs _ E x eo (hp.bnd (rel1:=Aq U) fun v H1 ρ1 v' h1 Bk J l1 x1 r1 AS=> ?_)
 intro pl
 obtain⟨i,t,xs,rfl,hc,Cb⟩:=Uo AS
 have go:wpAny (model U.prog U.w) A (callWith pos (.builtin (if t then "tuple.index" else "list.index")) [v'] (backTo pos (starEach [e] env)) []) Q E { s with heap:=h1,toks:=Bk}:=by
  refine Au (P:=fun J=>True) (by simp[s2]) CC ?_
  exact O8 s2 h2 (first:=[v']) x1 (eo.mono l1) Cb fun ρ' H s v2 v2' Q E l x r2 hp=>P9 x (r1.mono l) r2 hp
 cases t with
 | false=>exact Jg (s:={ s with heap:=h1,toks:=Bk}) x1 hc r1 PySem.F.slot_list_index PySem.F.type_list_index go
 | true=>
  obtain⟨a,o,news,g,e1,lo,⟨ws,e2,hws⟩,N,hm,up,back⟩:=FS.oneCell (s:={ s with heap:=h1,toks:=Bk}) x1 hc (fun J J=>by simp)
  cases e2
  obtain⟨p,ep,rfl⟩:=r1
  rw[e1]at ep;cases ep
  exact getMethod_builtin ⟨_,(N _ hm).1,rfl⟩ PySem.F.plainAttrs_tuple PySem.F.slot_tuple_index PySem.F.type_tuple_index (fun a e=>by cases e;exact⟨_,(N _ hm).1,rfl⟩) go
theorem UL{m1 m2:ME Fn}{o e:Expr}(hb:A0 o=true)(hl:(apos.endLine==pos.line)=true)(s2:Ar e=true)(h1:SE U xc C A X env Γ m1 o)(h2:SE U xc C A X env Γ m2 e):
  SE U xc C A X env Γ (.get1 m1 m2) (.Call (.Attribute o "get" apos) [e] [] pos):=by
 intro ρ H s vs Q E x eo hp
 refine CM hb (by simp[s2]) (by simp) hl ?_
 refine h1 ρ H s vs _ E x eo (hp.bnd (rel1:=Aq U) fun v H1 ρ1 v' h1 Bk J l1 x1 r1 AS=> ?_)
 intro pl
 obtain⟨i,xs,rfl,hc,Cb⟩:=OO AS
 refine MD (s:={ s with heap:=h1,toks:=Bk}) x1 hc r1 ?_
 refine Au (P:=fun J=>True) (by simp[s2]) CC ?_
 exact O8 s2 h2 (first:=[v']) x1 (eo.mono l1) Cb fun ρ' H s v2 v2' Q E l x r2 hp=>Ti x (r1.mono l) r2 hp
theorem UO{m1 m2 m3:ME Fn}{o e e3:Expr}(hb:A0 o=true)(hl:(apos.endLine==pos.line)=true)(s2:Ar e=true)(s3:Ar e3=true)(h1:SE U xc C A X env Γ m1 o)(h2:SE U xc C A X env Γ m2 e)(h3:SE U xc C A X env Γ m3 e3):
  SE U xc C A X env Γ (.get2 m1 m2 m3) (.Call (.Attribute o "get" apos) [e,e3] [] pos):=by
 intro ρ H s vs Q E x eo hp
 refine CM hb (by simp[s2,s3]) (by simp) hl ?_
 refine h1 ρ H s vs _ E x eo (hp.bnd (rel1:=Aq U) fun v H1 ρ1 v' h1 Bk J l1 x1 r1 AS=> ?_)
 intro pl
 obtain⟨i,xs,rfl,hc,Cb⟩:=OO AS
 refine MD (s:={ s with heap:=h1,toks:=Bk}) x1 hc r1 ?_
 refine Au (P:=fun J=>True) (by simp[s2,s3]) CC ?_
 exact V3 s2 s3 h2 h3 (first:=[v']) x1 (eo.mono l1) Cb fun ρ' H s v2 v3 v2' v3' Q E l x r2 r3 hp=>SW x (r1.mono l) r2 r3 hp
theorem PF(ok:Rk C.bg){m1 m2:ME Fn}{o e:Expr}(hb:A0 o=true)(hl:(apos.endLine==pos.line)=true)(s2:Ar e=true)(h1:SE U xc C A X env Γ m1 o)(h2:SE U xc C A X env Γ m2 e):
  SE U xc C A X env Γ (.starts m1 m2) (.Call (.Attribute o "startswith" apos) [e] [] pos):=by
 intro ρ H s vs Q E x eo hp
 refine CM hb (by simp[s2]) (by simp) hl ?_
 refine h1 ρ H s vs _ E x eo (hp.bnd (rel1:=Aq U) fun v H1 ρ1 v' h1 Bk J l1 x1 r1 AS=> ?_)
 intro pl
 obtain⟨i,rfl,Cb⟩:=Ud AS
 obtain⟨t,rfl⟩:=r1
 refine GM.startswith ?_
 refine Au (P:=fun J=>True) (by simp[s2]) CC ?_
 exact O8 s2 h2 (first:=[.str (wd i) t]) x1 (eo.mono l1) Cb fun ρ' H s v2 v2' Q E l x r2 hp=>M4 ok x (o:= .w i) ⟨t,rfl⟩ r2 hp
theorem Kc{nm:Str}{p:Pos}:∀o r,letTemporaryGo (.Name nm p) o r=pure ():=fun J J=>rfl
theorem SA(sc:C.Aa=U.Aa)(gf:GF U X.G){m1 m2:ME Fn}{nm:Str}{p1 p2:Pos}{k:Expr}(h1:SE U xc C A X env Γ m1 (.Name nm p1))(h2:SE U xc C A X env Γ m2 k):
  SE U xc C A X env Γ (.cutTo m1 m2) (.Subscript (.Name nm p1) (.Slice none (some k) none p2) pos):=by
 intro ρ H s vs Q E x eo hp
 change Ae _ _ _ _ _ (bnd _ _ _) _ _ _ at hp
 rw[sc]at hp
 refine wpAny_Subscript_list_slice (h1 ρ H s vs _ E x eo (hp.bnd (rel1:=Aq U) fun v H1 ρ1 v' h1 Bk J l1 x1 r1 AS=> ?_)) Kc
 refine BH ?_
 refine h2 ρ1 H1 _ vs _ E x1 (eo.mono l1) (AS.bnd (rel1:=Aq U) fun w H2 ρ2 w' h2 tk2 J l2 x2 r2 Cb=> ?_)
 exact PW (s:={ s with heap:=h2,toks:=tk2}) gf x2 (r1.mono l2) r2 Cb
theorem Nm(gf:GF U X.G){m1 m2:ME Fn}{nm:Str}{p1 p2:Pos}{k:Expr}(h1:SE U xc C A X env Γ m1 (.Name nm p1))(h2:SE U xc C A X env Γ m2 k):
  SE U xc C A X env Γ (.cutFrom m1 m2) (.Subscript (.Name nm p1) (.Slice (some k) none none p2) pos):=by
 intro ρ H s vs Q E x eo hp
 refine wpAny_Subscript_list_slice (h1 ρ H s vs _ E x eo (hp.bnd (rel1:=Aq U) fun v H1 ρ1 v' h1 Bk J l1 x1 r1 AS=> ?_)) Kc
 refine h2 ρ1 H1 _ vs _ E x1 (eo.mono l1) (AS.bnd (rel1:=Aq U) fun w H2 ρ2 w' h2 tk2 J l2 x2 r2 Cb=> ?_)
 refine BH ?_
 exact MY (s:={ s with heap:=h2,toks:=tk2}) gf x2 (r1.mono l2) r2 Cb
noncomputable def Rt(f:Fn):Str:=Str.ofString (XB f)
noncomputable def Lc:Fn->Bool
 | .Ck | .An | .AU=>true
 | _=>false
structure UC(U:Un)(fa:Fn->Addr):Prop where
 glo:∀f,Lc f=false->nsIn U.K mainGlobals (Rt f)=some (some (.ref (fa f)))
 keep:∀f,keepIn U.K (.ref (fa f))=true
theorem Ky(ws:List Nat):Et C (ws.map fun k=> .cst (.w k)) vs H=.ok (ws.map .w) H:=by
 induction ws with
 | nil=>rfl
 | cons k r ih=>
  show bnd (ret (V.w k)) (fun v=>bnd (Et C (r.map fun k=> .cst (.w k)) vs) fun vs=>ret (v::vs)) H=_
  simp only [bnd,ret,ih,List.map_cons]
theorem Kh(i:Nat):∀ws:List Nat,(ws.map V.w).any (J3 i)=ws.contains i
 | []=>rfl
 | a::r=>by
  rw[List.map_cons,List.any_cons,Kh i r,List.contains_cons]
  congr 1
  by_cases h:a=i
  .subst h;simp[J3]
  .have:i≠a:=fun e=>h e.symm
   simp[J3,h,this]
set_option tactic.hygienic true in
theorem Yo{neg:Bool}{m:ME Fn}{e:Expr}{ws:List Nat}{es:List Expr}{k:Nat}{p:Pos}(hws:ws.length<=100)(h:SE U xc C A X env Γ m e)(h2:OS U xc C A X env Γ (ws.map fun k=> .cst (.w k)) es):
  SE U xc C A X env Γ (.inW neg m ws) (.Compare e [if neg then .NotIn else .In] [.Tuple es k p] pos):=by
 intro ρ H s vs Q E x eo hp
 refine wpAny_Compare1 (h ρ H s vs _ E x eo (hp.bnd (rel1:=Aq U) fun v H1 ρ1 v' h1 Bk _ l1 x1 r1 AS=> ?_)) (by cases neg<;>rfl)
 cases v<;>first | exact AS.elim | skip
 rename_i i _
 obtain⟨t,rfl⟩:=r1
 refine Tuple_ (h2 p ρ1 H1 _ vs _ E x1 (eo.mono l1) ?_)
 rw[Ky]
 intro ρ2 vals h2 tk2 l2 x2 r2
 have go:∀s':Shared,s'={ s with heap:=h2.push (PC vals),toks:=tk2}->wpAny (model U.prog U.w) A (compareOp (if neg then .NotIn else .In) (.str (wd i) t) (.ref h2.objs.size)) Q E s':=by
  rintro s' rfl
  have il:(h2.push (PC vals)).IsTuple h2.objs.size vals.toArray:=⟨_,Heap.get?_push_size _ rfl,rfl,_,rfl⟩
  have hw:(ws.map V.w).all wn=true:=by simp[wn]
  obtain⟨i1,i2⟩:=GY (k:=i) (t:=t) (A:=A.in1) (s:={ s with heap:=h2.push (PC vals),toks:=tk2}) r2 hw
  have e:vals.toArray.any (isStrOf (wd i))=ws.contains i:=by
   rw[List.any_toArray,any_map,i2,<-any_map,Kh]
  have x3:AL U X ρ2 H1 (h2.push (PC vals)):=FS.keeps x2 fun b o e=>Dx _ e
  have fin:Q (.bool (xor neg (ws.contains i))) { s with heap:=h2.push (PC vals),toks:=tk2}:=AS ρ2 _ _ tk2 l2 x3 rfl
  cases neg
  .refine in_tupleAt (isStrOf (wd i)) il (fun y hy=>i1 y (by simpa using hy)) ?_
   rw[e];simpa using fin
  .refine notIn_tupleAt (isStrOf (wd i)) il (fun y hy=>i1 y (by simpa using hy)) ?_
   rw[e];simpa using fin
 refine wpAny_newObj_type (go _ rfl) ?_
 show vals.toArray.size<=sizeLine
 rw[List.size_toArray,r2.length,List.length_map,sizeLine_eq]
 exact zz ‹_› (by rfl)
noncomputable def OZ:Fn->Bool
 | .AZ=>true
 | _=>false
noncomputable def Ht(U:Un)(xc:Value)(fa:Fn->Addr)(n:Nat)(cl:Fn->List V->M V):Prop:=
 ∀f A X Ad ρ H s vs vs' (R:Result->Shared->Prop),OZ f=false->Cx U A X Ad n->AL U X ρ H s.heap->C1 U.sa ρ vs vs'->Ae (Aq U) U xc X ρ (cl f vs H) (fun v s'=>R (.ok (.ret v)) s') (fun e s'=>R (.error e) s') s->
  codeAny (model U.prog U.w) A (.call (.ref (fa f)) ⟨vs',[]⟩) R s
theorem Uw(uc:UC U fa)(cx:Cx U A X Ad n)(ek:AJ X Ad env ns)(ok:Ht U xc fa n C.call){f:Fn}{ms:List (ME Fn)}{es:List Expr}(hn:Df ns (Rt f)=true)(hm:Lc f=false)(hf:OZ f=false)(hs:es.all Ar=true)
  (h:OS U xc C A X env Γ ms es):SE U xc C A X env Γ (.call f ms) (.Call (.Name (Rt f) np) es [] pos):=by
 intro ρ H s vs Q E x eo hp
 refine By (Dw ek cx.gf x hn (uc.glo f hm) ?_)
 refine Au (P:=U.K.In) hs (fun h X=>keeps_K (uc.keep f) h X) ?_
 refine h pos ρ H _ vs _ E x eo (hp.bnd (rel1:=Od U) fun v H1 ρ1 v' h1 Bk J l1 x1 r1 AS=> ?_)
 exact⟨cx.gf.K.keeps x1.fr.keep,wpAny_call (ok f A X Ad ρ1 H1 _ v v' _ hf cx x1 r1 AS)⟩
theorem VI(k:Nat):wd k≠"copy":=by
 by_cases h:k < 38
 .intro e
  have:∀k,k < 38->wd k≠"copy":=by decide+kernel
  exact this k h e
 .rw [Jq k h]
  intro e
  have:=congrArg PySem.Str.cps e
  have h2:(PySem.Str.ofString "copy").cps=#[99,111,112,121]:=by decide+kernel
  rw[h2]at this
  have:=congrArg Array.size this
  simp at this
theorem J8.copy{sa:Addr}{ρ:A8}:∀{fs:List (Nat×V)} {es:List DictEntry},J8 sa ρ fs es->getL "copy" es=Option.some Option.none
 | [],[],_=>rfl
 | [],_::_,h=>h.elim
 | _::_,[],h=>h.elim
 | p::r,e::es,⟨⟨t,hk⟩,hv,hr⟩=>by
  have ih:=hr.copy
  unfold getL at ih ⊢
  rw[List.find?_cons,List.any_cons]
  have hs:e.key.isStr "copy"=false:=by
   rw[hk]
   show(wd p.1==_)=false
   exact beq_eq_false_iff_ne.mpr (VI _)
  have hr:e.refKey=false:=by simp[DictEntry.refKey,hk]
  rw[hs,hr]
  exact ih
structure UM(U:Un)(fa:Fn->Addr):Prop where
 copyG:plainGet U.K (U.cls .vector) "copy"=true
 copyF:findIn U.K (.ref (U.cls .vector)) "copy"=some (some (.ref (fa .AU)))
 isFn:∀f,isFn U.K (.ref (fa f))=true
 makes:∀c,makesIn U.K (U.cls c)=true
 init:∀c,findIn U.K (.ref (U.cls c)) "__init__"=some (some (.ref (fa (initOf c))))
 high:3 < U.cls .null/\(U.K.lookup (U.cls .null)).isSome=true
 keepC:∀c,keepIn U.K (.ref (U.cls c))=true
theorem RQ{α β:Type}{rel:A8->α->β->Prop}{Q:β->Shared->Prop}{v:V}{f:V->M α}(hp:Ae rel U xc X ρ (bnd (Jb v) f H) Q E s):∃i fs b,v=.ref i/\H[i]? =some (.inst .vector fs)/\Ae rel U xc X ρ (f b H) Q E s:=
 Bu (P:=fun v=>∃i fs b,v=.ref i/\H[i]? =some (.inst .vector fs)/\Ae rel U xc X ρ (f b H) Q E s) hp.as fun i c e hp=>by
  cases c with
  | inst k fs=>cases k with
   | vector=>exact⟨i,fs,_,rfl,e,hp⟩
   | null=>exact hp.elim
  | _=>exact hp.elim
theorem Vk(uc:UC U fa)(um:UM U fa)(cx:Cx U A X Ad n)(ok:Ht U xc fa n C.call){m1:ME Fn}{o:Expr}(hb:A0 o=true)(hl:(apos.endLine==pos.line)=true)(h1:SE U xc C A X env Γ m1 o):
  SE U xc C A X env Γ (.mcall m1 .AU) (.Call (.Attribute o "copy" apos) [] [] pos):=by
 intro ρ H s vs Q E x eo hp
 refine CM hb rfl (by simp) hl ?_
 refine h1 ρ H s vs _ E x eo (hp.bnd (rel1:=Aq U) fun v H1 ρ1 v' h1 Bk J l1 x1 r1 AS=> ?_)
 intro pl
 obtain⟨i,fs,b,rfl,hc,Cb⟩:=RQ AS
 obtain⟨ad,nn,pre,post,e1,⟨es,nd,rfl,hw⟩,N,D,lo,_⟩:=FS.cell x1 hc
 have r1':=r1
 obtain⟨p,ep,rfl⟩:=r1
 rw[e1]at ep;cases ep
 have m1:(ad.1,instObj (U.cls .vector) ad.2) ∈ pre++[(ad.1,instObj (U.cls .vector) ad.2),(ad.2,W.dictOf es nd)]++post:=by simp
 have m2:(ad.2,W.dictOf es nd) ∈ pre++[(ad.1,instObj (U.cls .vector) ad.2),(ad.2,W.dictOf es nd)]++post:=by simp
 refine method_inst (s:={ s with heap:=h1,toks:=Bk}) x1.fr cx.gf.K (W.InstAt.of_news N m1 m2) um.copyG um.copyF (um.isFn _) hw.copy ?_
 refine Au (P:=U.K.In) rfl (fun h X=>keeps_K (uc.keep _) h X) ?_
 exact wpAny_items_nil ⟨cx.gf.K.keeps x1.fr.keep,wpAny_call (ok _ A X Ad ρ1 H1 _ [_] [_] _ rfl cx x1 ⟨r1',trivial⟩ Cb)⟩
noncomputable def DI(A:Around)(n k:Nat):Prop:=A.depth+8 * n+8+k < recursionLimit/\A.units+200 * n+800+20 * k < cLine
noncomputable def Hn(L:Addr)(h:Heap):List (Addr×Obj):=(List.range h.objs.size).filterMap fun b=>if b=L then none else(h.get? b).map (b,·)
theorem Jh{L:Addr}{h:Heap}{b:Addr}{o:Obj}(e:h.get? b=some o)(hb:b≠L):(b,o) ∈ Hn L h:=by
 unfold Hn
 refine List.mem_filterMap.mpr ⟨b,List.mem_range.mpr (Heap.lt_size e),?_⟩
 rw[if_neg hb,e];rfl
set_option tactic.hygienic true in
theorem Ke{L:Addr}{h:Heap}{p:Addr×Obj}(e:p ∈ Hn L h):h.get? p.1=some p.2/\p.1≠L:=by
 unfold Hn at e
 obtain⟨b,_,hb⟩:=List.mem_filterMap.mp e
 split at hb
 .cases hb
 .rename_i JK
  cases q:h.get? b with
  | none=>rw[q]at hb;cases hb
  | some o=>rw[q]at hb;cases hb;exact⟨q,JK⟩
noncomputable def Hj:Heap:={ objs:=#[]}
theorem IG(b:Addr):Hj.get? b=none:=by
 cases e:Hj.get? b with
 | none=>rfl
 | some o=>exact absurd (Heap.lt_size e) (Nat.not_lt_zero _)
theorem W0{G h:Heap}{L:Addr}{m:Str->Option Value}(F:Fr G L h m):Fr Hj L h m/\News Hj L h (Hn L h):=
 ⟨⟨F.ns,fun b o e=>by rw[IG]at e;(cases e),Nat.zero_le _⟩,fun p hp=>⟨(Ke hp).1,(Ke hp).2,IG _⟩⟩
theorem Vq{G h h':Heap}{L:Addr}{m m':Str->Option Value}{n:List (Addr×Obj)}(F:Fr G L h m)(F':Fr Hj L h' m')(N':News Hj L h' (n++Hn L h)):Fr G L h' m'/\∀b o,b≠L->h.get? b=some o->h'.get? b=some o:=by
 have k:∀b o,b≠L->h.get? b=some o->h'.get? b=some o:=fun b o hb e=>(N' _ (C9 _ (Jh e hb))).1
 exact⟨⟨F'.ns,fun b o e=>k b o (fun q=>by subst q;exact absurd (Nat.lt_of_lt_of_le (Heap.lt_size e) F.above) (Nat.lt_irrefl _)) (F.keep b o e),F.above⟩,k⟩
theorem Cx.under(cx:Cx U A X Ad n)(hr:DI A n 1)(c:Addr)(vals:List Value):Cx U (A.under (.builtin "type.__call__" ⟨.ref c::vals,[]⟩)) X Ad n where
 B:=cx.B
 hA:=by
  have:(A.under (.builtin "type.__call__" ⟨.ref c::vals,[]⟩)).frames=A.frames:=by
   obtain⟨hd,d,fr,gs,u⟩:=A
   show pushEnvs [] fr=fr
   rfl
  rw[this];exact cx.hA
 hf:=cx.hf
 hk:=cx.hk
 hh:=cx.hh
 hd:=by rw[depth_under_make];have:=hr.1;exact YS ‹_› (by rfl)
 hu:=by rw[units_under_make];have:=hr.2;exact YS ‹_› (by rfl)
 gf:=cx.gf
theorem YW(um:UM U fa)(ub:UB U)(cx:Cx U A X Ad n)(hr:DI A n 1)(ek:AJ X Ad env ns)(ok:Ht U xc fa n C.call)(hi:C.initOf=initOf){c:Dz}{ms:List (ME Fn)}{es:List Expr}
  (hn:Df ns (Str.ofString (FD c))=true) (hs:es.all Ar=true)
  (h:OS U xc C A X env Γ ms es):SE U xc C A X env Γ (.mk c ms) (.Call (.Name (Str.ofString (FD c)) np) es [] pos):=by
 intro ρ H s vs Q E x eo hp
 refine By (Dw ek cx.gf x hn (ub.cls c) ?_)
 refine Au (P:=U.K.In) hs (fun h X=>keeps_K (um.keepC c) h X) ?_
 refine h pos ρ H _ vs _ E x eo (hp.bnd (rel1:=Od U) fun v H1 ρ1 v' h1 Bk J l1 x1 r1 AS=> ?_)
 have X1:=cx.gf.K.keeps x1.fr.keep
 refine⟨X1,wpAny_call ?_⟩
 obtain⟨FA,NA⟩:=W0 x1.fr
 refine make_K (s:={ s with heap:=h1,toks:=Bk}) (K:=U.K) FA NA X1 (um.makes c) (um.init c) (beq_iff_eq.mp (um.isFn _)) fun xa dx h' F' N' dS Qk=> ?_
 obtain⟨F2,k⟩:=Vq (n:=[(xa,instObj (U.cls c) dx),(dx,emptyDict)]) x1.fr F' N'
 obtain⟨l,N,D,sub,back⟩:=FS.all x1
 have k':∀q ∈ l,h'.get? q.1=some q.2:=fun q hq=>k _ _ (N q hq).2.1 (N q hq).1
 have aX:∀b o,b≠X.L->h1.get? b=some o->b < dx:=fun b o hb e=>dS _ (Jh e hb)
 have high:3 < dx:=by
  obtain⟨o,ho⟩:=Option.isSome_iff_exists.mp um.high.2
  have e:X.G.get? (U.cls .null)=some o:=cx.gf.K _ _ ho
  exact Nat.lt_trans um.high.1 (aX _ o (fun q=>absurd (Nat.lt_of_lt_of_le (Heap.lt_size e) x1.fr.above) (by rw[q];exact Nat.lt_irrefl _)) (x1.fr.keep _ _ e))
 have fresh:∀b,(∃o,h'.get? b=some o)->dx<=b->b≠X.L->X.G.get? b=none:=fun b J hb hL=>by
  cases q:X.G.get? b with
  | none=>rfl
  | some o=>exact absurd (aX b o hL (x1.fr.keep _ _ q)) (Nat.not_lt.mpr hb)
 have nx:=N' (xa,instObj (U.cls c) dx) (.head _)
 have nd:=N' (dx,emptyDict) (.tail _ (.head _))
 have N2:News X.G X.L h' ([(xa,instObj (U.cls c) dx),(dx,emptyDict)]++l):=by
  intro p hp
  rcases List.mem_append.mp hp with hp | hp
  .rcases List.mem_cons.mp hp with rfl | hp
   .exact ⟨nx.1,nx.2.1,fresh _ ⟨_,nx.1⟩ (Nat.le_of_lt Qk) nx.2.1⟩
   .rw [List.mem_singleton.mp hp]
    exact⟨nd.1,nd.2.1,fresh _ ⟨_,nd.1⟩ (Nat.le_refl _) nd.2.1⟩
  .exact ⟨k' p hp,(N p hp).2⟩
 have x2:AL U X (ρ1++[(xa,dx)]) (H1++[.inst c []]) h':=back (.inst c []) (xa,dx) [(xa,instObj (U.cls c) dx),(dx,emptyDict)] h' F2 N2 (fun p hp q hq=>by
   have:q.1 < dx:=aX _ _ (N q hq).2.1 (N q hq).1
   rcases List.mem_cons.mp hp with rfl | hp
   .exact Nat.lt_trans this Qk
   .rw [List.mem_singleton.mp hp];exact this) (by
   unfold BC
   simp only [List.map_cons,List.map_nil,List.nodup_cons,List.mem_singleton,List.not_mem_nil,not_false_eq_true,List.nodup_nil,and_true]
   exact Nat.ne_of_gt Qk) (fun p hp=>by
   rcases List.mem_cons.mp hp with rfl | hp
   .exact Nat.lt_trans high Qk
   .rw [List.mem_singleton.mp hp];exact high) ⟨[],0,rfl,trivial⟩
 have Ba:=FS.len x1
 have rx:Aq U (ρ1++[(xa,dx)]) (.ref H1.length) (.ref xa):=⟨(xa,dx),by rw[<-Ba];simp,rfl⟩
 have e0:alloc (.inst c []) H1=.ok (.ref H1.length) (H1++[.inst c []]):=rfl
 unfold Ae bnd at AS
 rw[e0]at AS
 dsimp only at AS
 rw[hi]at AS
 refine ok (initOf c) _ X Ad (ρ1++[(xa,dx)]) (H1++[.inst c []]) _ (.ref H1.length::v) (.ref xa::v') _ (by cases c<;>rfl) (cx.under hr _ _) x2 ⟨rx,r1.mono (List.prefix_append ..)⟩ ?_
 unfold Ae
 unfold still at AS
 cases q:C.call (initOf c) (.ref H1.length::v) (H1++[.inst c []])with
 | ok w H2=>
  rw[q]at AS
  dsimp only at AS ⊢
  by_cases hw:w=.none
  .rw [if_pos hw]at AS
   subst hw
   intro ρ3 w' h3 tk3 l3 x3 r3
   cases r3
   exact⟨rfl,AS ρ3 (.ref xa) h3 tk3 ((List.prefix_append ..).trans l3) x3 (rx.mono l3)⟩
  .rw [if_neg hw]at AS;exact AS.elim
 | exc e H2=>rw[q]at AS;exact AS.elim
 | bad=>rw[q]at AS;exact AS.elim
section
variable{ex:List (Addr×Obj)}{a:Addr}{o o':Obj}
noncomputable abbrev Fx.withEx(X:Fx)(ex:List (Addr×Obj)):Fx:={ X with ex:=ex}
theorem FS.setEx{pre post:List (Addr×Obj)}(x:AL U X ρ H h)(e:X.ex=pre++(a,o)::post)(hs:Heap.SameBut a h h')(ho:h'.get? a=some o'):AL U (X.withEx (pre++(a,o')::post)) ρ H h':=by
 obtain⟨F,ps,p,N,D,lo⟩:=x
 have w:X.px++ps.flatten=(X.own++pre)++(a,o)::(post++ps.flatten):=by simp[Fx.px,e]
 rw[w]at N D
 obtain⟨h1,h2⟩:(∀q ∈ X.own++pre,q.1≠a)/\∀q ∈ post++ps.flatten,q.1≠a:=by
  unfold BC at D
  rw[List.map_append,List.map_cons]at D
  have d2:=(List.nodup_append.mp D)
  refine⟨fun q hq=>d2.2.2 q.1 (List.mem_map_of_mem hq) a (.head _),fun q hq e=> ?_⟩
  have:=(List.nodup_cons.mp d2.2.1).1
  exact this (e▸List.mem_map_of_mem (f:=(·.1)) hq)
 have z:=N (a,o) (C9 _ (.head _))
 refine⟨F.change hs z.2.1 z.2.2,ps,p,?_,?_,lo⟩
 .have:=N.setAt h1 h2 hs ho
  simpa [Fx.px,  e]using this
 .have:=Hu (o':=o') D
  simpa [Fx.px]using this
theorem FS.addEx(x:AL U X ρ H h)(k:∀b o,h.get? b=some o->h'.get? b=some o)(ho:h'.get? a=some o)(ha:h.objs.size<=a):AL U (X.withEx ((a,o)::X.ex)) ρ H h':=by
 obtain⟨F,ps,p,N,D,lo⟩:=x
 have hL:X.L < a:=Nat.lt_of_lt_of_le F.ns.lt ha
 have hG:X.G.get? a=none:=by
  cases q:X.G.get? a with
  | none=>rfl
  | some o=>exact absurd (Heap.lt_size q) (Nat.not_lt.mpr (Nat.le_trans F.above (Nat.le_of_lt hL)))
 refine⟨F.keeps k,ps,p,?_,?_,lo⟩
 .intro q hq
  simp only [Fx.px,  List.append_assoc,List.cons_append,List.mem_append,List.mem_cons]at hq
  rcases hq with hq | rfl | hq | hq
  .exact (N.grown k) q (by simp[Fx.px,hq])
  .exact ⟨ho,Nat.ne_of_gt hL,hG⟩
  .exact (N.grown k) q (by simp[Fx.px,hq])
  .exact (N.grown k) q (C9 _ hq)
 .have:BC ((a,o)::(X.px++ps.flatten)):=by
   unfold BC at D ⊢
   rw[List.map_cons,List.nodup_cons]
   refine⟨fun hm=> ?_,D⟩
   obtain⟨q,hq,e⟩:=List.mem_map.mp hm
   exact absurd (Heap.lt_size (N q hq).1) (Nat.not_lt.mpr (by rw[e];exact ha))
  refine BP ?_ this
  simp only [Fx.px,  List.append_assoc,List.cons_append]
  exact List.perm_middle.symm
theorem FS.dropEx(x:AL U (X.withEx ((a,o)::ex)) ρ H h)(hs:Heap.ExtBut a h h'):AL U (X.withEx ex) ρ H h':=by
 obtain⟨F,ps,p,N,D,lo⟩:=x
 have w:(X.withEx ((a,o)::ex)).px++ps.flatten=X.own++(a,o)::(ex++ps.flatten):=by simp[Fx.px]
 rw[w]at N D
 obtain⟨h1,h2⟩:(∀q ∈ X.own,q.1≠a)/\∀q ∈ ex++ps.flatten,q.1≠a:=by
  unfold BC at D
  rw[List.map_append,List.map_cons]at D
  have d2:=(List.nodup_append.mp D)
  refine⟨fun q hq=>d2.2.2 q.1 (List.mem_map_of_mem hq) a (.head _),fun q hq e=> ?_⟩
  have:=(List.nodup_cons.mp d2.2.1).1
  exact this (e▸List.mem_map_of_mem (f:=(·.1)) hq)
 have z:=N (a,o) (C9 _ (.head _))
 have hL:X.L≠a:=Ne.symm z.2.1
 refine⟨⟨F.ns.extBut hs hL,fun b o e=>hs b o (fun q=> ?_) (F.keep b o e),F.above⟩,ps,p,?_,?_,lo⟩
 .subst q;have:=z.2.2;dsimp only at e;rw[e]at this;cases this
 .intro q hq
  have hq':q ∈ X.own\/q ∈ ex++ps.flatten:=by simpa [Fx.px,  or_assoc]using hq
  rcases hq' with hq' | hq'
  .have y:=N q (B1 _ hq')
   exact⟨hs _ _ (h1 q hq') y.1,y.2⟩
  .have y:=N q (C9 _ (.tail _ hq'))
   exact⟨hs _ _ (h2 q hq') y.1,y.2⟩
 .have:=BP (List.perm_middle (l₁:=X.own) (a:=(a,o)) (l₂:=ex++ps.flatten)) D
  have d3:BC (X.own++(ex++ps.flatten)):=by
   unfold BC at this ⊢
   rw[List.map_cons,List.nodup_cons]at this
   exact this.2
  simpa [Fx.px]using d3
theorem FS.dropEx0(x:AL U (X.withEx ((a,o)::ex)) ρ H h):AL U (X.withEx ex) ρ H h:=x.dropEx fun J J J e=>e
theorem FS.adopt{c:Af}(x:AL U (X.withEx ((a,o)::ex)) ρ H h)(y:CR U (ρ++[(a,a)]) c (a,a) [(a,o)])(ha:3 < a):AL U (X.withEx ex) (ρ++[(a,a)]) (H++[c]) h:=by
 obtain⟨F,ps,p,N,D,lo⟩:=x
 have pm:((X.withEx ((a,o)::ex)).px++ps.flatten).Perm ((X.withEx ex).px++(ps++[[(a,o)]]).flatten):=by
  have e1:(X.withEx ((a,o)::ex)).px++ps.flatten=X.own++(a,o)::(ex++ps.flatten):=by simp[Fx.px]
  have e2:(X.withEx ex).px++(ps++[[(a,o)]]).flatten=(X.own++(ex++ps.flatten))++[(a,o)]:=by simp[Fx.px]
  rw[e1,e2]
  exact(List.perm_middle (l₁:=X.own) (a:=(a,o)) (l₂:=ex++ps.flatten)).trans (List.perm_append_comm (l₁:=[(a,o)]) (l₂:=X.own++(ex++ps.flatten)))
 refine⟨F,ps++[[(a,o)]],(p.mono (List.prefix_append ..)).push y,?_,BP pm D,?_⟩
 .exact DE N fun q hq=>pm.symm.subset hq
 .intro q hq
  simp only [List.flatten_append,List.flatten_cons,List.flatten_nil,List.append_nil,List.mem_append,List.mem_singleton]at hq
  rcases hq with hq | rfl
  .exact lo q hq
  .exact ha
theorem FS.exGet(x:AL U X ρ H h){p:Addr×Obj}(hp:p ∈ X.ex):h.get? p.1=some p.2:=by
 obtain⟨F,ps,_,N,_,_⟩:=x
 exact(N p (B1 _ (C9 _ hp))).1
end
noncomputable def Bm(cells:List (Str×Addr)):Dm->List (Str×Addr)->List (Str×Addr)
 | [],cs=>cs
 | (x,k)::r,cs=>Bm cells r (if k== .free then(x,(cells.lookup x).getD 0)::cs else cs)
theorem CF{scope:Scope}{env:PySem.Env}(h:∀p ∈ scope.names,p.2=.free->(env.cells.lookup p.1).isSome=true):closureFor scope env=pure (Bm env.cells scope.names []):=by
 unfold closureFor
 have step:∀(l:Dm) (cs:List (Str×Addr)),(∀p ∈ l,p.2=.free->(env.cells.lookup p.1).isSome=true)->
   (forIn l cs (fun(p:Str×NameKind) (cs:List (Str×Addr))=>(do
    if p.2== .free then do
     let c <-cellOf env p.1
     pure (ForInStep.yield ((p.1,c)::cs))
    else pure (ForInStep.yield cs):Sem (ForInStep (List (Str×Addr))))))=pure (Bm env.cells l cs):=by
  intro l
  induction l with
  | nil=>intro cs _;rfl
  | cons p r ih=>
   intro cs hp
   obtain⟨x,k⟩:=p
   rw[List.forIn_cons]
   have hr:=ih (if k== .free then(x,(env.cells.lookup x).getD 0)::cs else cs) fun p hp'=>hp p (.tail _ hp')
   unfold Bm
   by_cases hk:k=.free
   .subst hk
    have hs:=hp (x,.free) (.head _) rfl
    obtain⟨c,hc⟩:=Option.isSome_iff_exists.mp hs
    dsimp only at hc
    simp only [beq_self_eq_true,if_true]at hr ⊢
    unfold cellOf
    rw[hc]at hr ⊢
    simp only [pure_bind,Option.getD_some]at hr ⊢
    exact hr
   .have hk':(k==NameKind.free)=false:=beq_eq_false_iff_ne.mpr hk
    simp only [hk',Bool.false_eq_true,if_false,pure_bind]at hr ⊢
    exact hr
 have:=step scope.names [] h
 simpa using this
theorem CE{cells:List (Str×Addr)}{x:Str}:∀(l:Dm) (cs:List (Str×Addr)),(∀p ∈ l,p.2=.free->(cells.lookup p.1).isSome=true)->(x,NameKind.free) ∈ l\/cs.lookup x=cells.lookup x->(cs.lookup x=none\/cs.lookup x=cells.lookup x)->
  (Bm cells l cs).lookup x=cells.lookup x
 | [],cs,_,h,_=>by
  rcases h with h | h
  .cases h
  .exact h
 | (y,k)::r,cs,hp,h,h2=>by
  unfold Bm
  by_cases hk:k=.free
  .subst hk
   simp only [beq_self_eq_true,if_true]
   obtain⟨c,hc⟩:=Option.isSome_iff_exists.mp (hp (y,.free) (.head _) rfl)
   dsimp only at hc
   by_cases hy:x=y
   .subst hy
    have e:List.lookup x ((x,(cells.lookup x).getD 0)::cs)=cells.lookup x:=by rw[List.lookup_cons,beq_self_eq_true];rw[hc];rfl
    exact CE r _ (fun p hp'=>hp p (.tail _ hp')) (.inr e) (.inr e)
   .have e:List.lookup x ((y,(cells.lookup y).getD 0)::cs)=cs.lookup x:=by
     rw[List.lookup_cons,beq_eq_false_iff_ne.mpr hy]
    refine CE r _ (fun p hp'=>hp p (.tail _ hp')) ?_ (by rw[e];exact h2)
    rcases h with h | h
    .rcases List.mem_cons.mp h with h | h
     .exact absurd (Prod.mk.inj h).1 hy
     .exact .inl h
    .exact .inr (by rw[e];exact h)
  .have hk':(k==NameKind.free)=false:=beq_eq_false_iff_ne.mpr hk
   simp only [hk',Bool.false_eq_true,if_false]
   refine CE r _ (fun p hp'=>hp p (.tail _ hp')) ?_ h2
   rcases h with h | h
   .rcases List.mem_cons.mp h with h | h
    .exact absurd (Prod.mk.inj h).2.symm hk
    .exact .inl h
   .exact .inr h
structure Xu(U:Un)(A:Around)(I:Addr)(items:List V)(Ready:MH->Prop)(ρ0:A8)(st:Nat->Obj->Prop):Prop where
 item:∀(k:Nat) (X:Fx) (ρ:A8) (H:MH) (s:Shared) (o:Obj) (v:V) (E:Value->Shared->Prop) (Q:Option Value->Shared->Prop),ρ0 <+:ρ->items[k]? =some v->AL U X ρ H s.heap->s.heap.get? I=some o->st k o->Ready H->
  (∀v' h' o' tk,Aq U ρ v v'->Heap.SameBut I s.heap h'->h'.get? I=some o'->st (k+1) o'->Q (some v') { s with heap:=h',toks:=tk})->wpAny (model U.prog U.w) A (pyNext (.ref I)) Q E s
 done:∀(X:Fx) (ρ:A8) (H:MH) (s:Shared) (o:Obj) (E:Value->Shared->Prop) (Q:Option Value->Shared->Prop),ρ0 <+:ρ->AL U X ρ H s.heap->s.heap.get? I=some o->st items.length o->Ready H->
  (∀h',Heap.ExtBut I s.heap h'->Q none { s with heap:=h'})->wpAny (model U.prog U.w) A (pyNext (.ref I)) Q E s
 self:∀(k:Nat) (s:Shared) (o:Obj) (E:Value->Shared->Prop) (Q:Value->Shared->Prop),s.heap.get? I=some o->st k o->Q (.ref I) s->wpAny (model U.prog U.w) A (pyIter (.ref I)) Q E s
theorem LM(hh:A.handled=none){i:Nat}{p:Addr×Addr}{xs:List V}{I:Addr}(ep:ρ0[i]? =some p):
  Xu U A I xs (fun H=>H[i]? =some (.list xs)) ρ0 (fun k o=>o.cls=.type "list_iterator"/\o.data=.fields #[.ref p.1,.int k 0]) where
 item:=fun k X ρ H s o v E Q l ev x ho st rd hq=>by
  obtain⟨a,e1,_,vs,il,vv⟩:=FS.at x rd
  rw[Dh l ep]at e1;cases e1
  obtain⟨y,ey,hy⟩:=vv.get ev
  refine wpAny_pyNext_list_item (i:=k) ⟨o,ho,st.1,st.2⟩ il (x:=y) (by rw[List.getElem?_toArray];exact ey) fun h' hit hs=> ?_
  obtain⟨o',ho',c1,c2⟩:=hit
  exact hq y h' o' s.toks hy hs ho' ⟨c1,c2⟩
 done:=fun X ρ H s o E Q l x ho st rd hq=>by
  obtain⟨a,e1,_,vs,il,vv⟩:=FS.at x rd
  rw[Dh l ep]at e1;cases e1
  exact wpAny_pyNext_list_end hh (i:=xs.length) ⟨o,ho,st.1,st.2⟩ il (by rw[List.getElem?_toArray,List.getElem?_eq_none];rw[vv.length];exact Nat.le_refl _) hq
 self:=fun k s o E Q ho st hq=>wpAny_pyIter_listiter (i:=k) ⟨o,ho,st.1,st.2⟩ hq
theorem Mz(hh:A.handled=none){i:Nat}{p:Addr×Addr}{kvs:List (Nat×V)}{I:Addr}{od:Obj}{ep:Nat}{es:List (Str×Value)}(e0:ρ0[i]? =some p)(hp:U.pin p.1=some od)
  (hd:od.ExactDict/\∃es',od.data=.dict es' ep/\KeysOf (PySem.strKind U.prog U.w) es'/\Pairs (PySem.strKind U.prog U.w) es'.toList es/\(es.map (·.1)).Nodup) (hk:es.map (·.1)=kvs.map fun q=>wd q.1) (hl:es.length=kvs.length):
  Xu U A I (kvs.map fun p=> .w p.1) (fun H=>H[i]? =some (.dictP kvs)) ρ0 (fun k o=>o.cls=.type "dict_keyiterator"/\o.data=.fields #[.ref p.1,.int k 0,.int es.length 0,.int ep 0]) where
 item:=fun k X ρ H s o v E Q l ev x ho st rd hq=>by
  obtain⟨a,e1,_,o2,es2,hg,_,_,Cb⟩:=FS.at x rd
  rw[Dh l e0]at e1;cases e1
  rw[hp]at Cb;cases Cb
  obtain⟨x1,es',x2,x3,x4,x5⟩:=hd
  have hm:s.heap.DictAt (PySem.strKind U.prog U.w) p.1 es ep:=⟨od,es',hg,x1,x2,x3,x4,x5⟩
  have Ef:k < kvs.length:=by have:=(Es.mp ev).1;simpa using this
  have hx:es[k]? =some (es[k]'(by rw[hl];exact Ef)):=List.getElem?_eq_getElem _
  generalize hkv:es[k]'(by rw[hl];exact Ef)=kv at hx
  obtain⟨kk,vv⟩:=kv
  refine wpAny_pyNext_dict_item (i:=k) ⟨o,ho,st.1,st.2⟩ hm hx fun key h' A3 hit hs=> ?_
  obtain⟨o',ho',c1,c2⟩:=hit
  refine hq key h' o' s.toks ?_ hs ho' ⟨c1,c2⟩
  rw[List.getElem?_map,List.getElem?_eq_getElem Ef]at ev
  cases ev
  have e2:kk=wd kvs[k].1:=by
   have:=congrArg (fun l=>l[k]?) hk
   simp only [List.getElem?_map,hx,List.getElem?_eq_getElem Ef,Option.map_some]at this
   exact Option.some.inj this
  subst e2
  have:(PySem.strKind U.prog U.w).is (wd kvs[k].1) key=true:=A3
  cases key<;>simp[PySem.strKind,Value.isStrOf]at this
  subst this
  exact⟨_,rfl⟩
 done:=fun X ρ H s o E Q l x ho st rd hq=>by
  obtain⟨a,e1,_,o2,es2,hg,_,_,Cb⟩:=FS.at x rd
  rw[Dh l e0]at e1;cases e1
  rw[hp]at Cb;cases Cb
  obtain⟨x1,es',x2,x3,x4,x5⟩:=hd
  have hm:s.heap.DictAt (PySem.strKind U.prog U.w) p.1 es ep:=⟨od,es',hg,x1,x2,x3,x4,x5⟩
  refine wpAny_pyNext_dict_end hh (i:=(kvs.map fun p=>V.w p.1).length) ⟨o,ho,st.1,st.2⟩ hm ?_ hq
  rw[List.getElem?_eq_none]
  simp[hl]
 self:=fun k s o E Q ho st hq=>wpAny_pyIter_keyiter (i:=k) (d:=p.1) (n:=es.length) (ep:=ep) ⟨o,ho,st.1,st.2⟩ hq
theorem FE(hh:A.handled=none){I:Addr}{lo hi:Int}:
  Xu U A I (BU lo hi) (fun J=>True) ρ0 (fun k o=>o={ cls:= .type "range_iterator",dict:=none,data:= .fields #[rawInt (lo+k),rawInt (((hi - lo).toNat:Int) - k),rawInt 1],slots:=#[]}) where
 item:=fun k X ρ H s o v E Q l ev x ho st rd hq=>by
  subst st
  have Ef:k < (hi - lo).toNat:=by have:=(Es.mp ev).1;simpa [BU]using this
  refine wpAny_pyNext_range_item ho (by exact e4 ‹_›) fun h' hit hs=> ?_
  refine hq _ h' _ _ ?_ hs hit ?_
  .have:v=.int (lo+k):=by
    unfold BU at ev
    rw[List.getElem?_map,List.getElem?_range Ef]at ev
    cases ev;rfl
   subst this
   exact⟨_,rfl⟩
  .have e1:lo+(k:Int)+1=lo+((k+1:Nat):Int):=by push_cast;exact Int.add_assoc _ _ _
   have e2:(((hi - lo).toNat:Nat):Int) - (k:Int) - 1=(((hi - lo).toNat:Nat):Int) - ((k+1:Nat):Int):=by push_cast;exact e3
   rw[e1,e2]
 done:=fun X ρ H s o E Q l x ho st rd hq=>by
  subst st
  refine wpAny_pyNext_range_end hh ho ?_ hq
  simp[BU]
 self:=fun k s o E Q ho st hq=>by subst st;exact wpAny_pyIter_rangeiter ho hq
noncomputable def Hh(ns:Dm)(Γ:List Str)(sc:Scope)(x:Str):Bool:=
 sc.kind== .function&&(sc.names.all fun p=>match p.2 with
  | .free=>ns.lookup p.1==some .cell||ns.lookup p.1==some .free
  | .local=>(p.1==x||p.1==(".0":Str))&&sc.names.lookup p.1==some .local
  | .cell=>false
  | _=>true)&&sc.names.lookup x==some .local&& !Γ.contains x&& !Γ.contains (".0":Str)
theorem Gj{x:Str}{k:NameKind}:∀{l:Dm},l.lookup x=some k->(x,k) ∈ l
 | [],h=>by cases h
 | (y,j)::r,h=>by
  rw[List.lookup_cons]at h
  cases q:x==y with
  | true=>rw[q]at h;cases h;rw[beq_iff_eq.mp q];exact .head _
  | false=>rw[q]at h;exact .tail _ (Gj h)
section
variable{sc:Scope}{x:Str}{Cd:Addr}
structure ES(ns:Dm)(Γ:List Str)(sc:Scope)(x:Str):Prop where
 kind:sc.kind=.function
 free:∀p ∈ sc.names,p.2=.free->ns.lookup p.1=some .cell\/ns.lookup p.1=some .free
 loc:∀p ∈ sc.names,p.2=.local->(p.1=x\/p.1=".0")/\sc.names.lookup p.1=some .local
 cell:∀p ∈ sc.names,p.2≠.cell
 it:sc.names.lookup x=some .local
 out:x ∉ Γ
 out0:Str.ofString ".0" ∉ Γ
theorem Fv(h:Hh ns Γ sc x=true):ES ns Γ sc x:=by
 unfold Hh at h
 simp only [DK,List.all_eq_true,Bool.not_eq_true',List.contains_eq_mem,decide_eq_false_iff_not]at h
 obtain⟨⟨⟨⟨h1,h2⟩,h3⟩,h4⟩,h5⟩:=h
 refine⟨by simpa using h1,fun p hp e=> ?_,fun p hp e=> ?_,fun p hp e=> ?_,by simpa using h3,h4,h5⟩
 .have:=h2 p hp;rw[e]at this;simpa [Bool.or_eq_true]using this
 .have:=h2 p hp;rw[e]at this;simpa [Bool.or_eq_true,DK]using this
 .have:=h2 p hp;rw[e]at this;cases this
theorem DQ(env:PySem.Env)(y:Str):∀{names:Dm} {k:NameKind},(names.map fun(n,k)=>if (k==NameKind.free&&env.scope.kind== .function&&env.kindOf n==some .cell)then(n,NameKind.cell)else(n,k)).lookup y=some k->
  ∃k₀,names.lookup y=some k₀/\(k=k₀\/(k=.cell/\k₀=.free))
 | [],k,h=>by simp at h
 | (n,j)::r,k,h=>by
  rw[List.map_cons]at h
  by_cases hc:(j==NameKind.free&&env.scope.kind== .function&&env.kindOf n==some .cell)=true
  .dsimp only at h
   rw[if_pos hc,List.lookup_cons]at h
   rw[List.lookup_cons]
   cases q:y==n with
   | true=>
    rw[q]at h;cases h
    rw[DK,DK]at hc
    exact⟨j,rfl,.inr ⟨rfl,by simpa using hc.1.1⟩⟩
   | false=>rw[q]at h;exact DQ env y h
  .dsimp only at h
   rw[if_neg hc,List.lookup_cons]at h
   rw[List.lookup_cons]
   cases q:y==n with
   | true=>rw[q]at h;cases h;exact⟨_,rfl,.inl rfl⟩
   | false=>rw[q]at h;exact DQ env y h
theorem C8(ek:AJ X Ad env ns)(k:ES ns Γ sc x):
  ∀p ∈ sc.names,p.2=.free->(env.cells.lookup p.1).isSome=true:=fun p hp e=>ek.hc p.1 (by
 have:=k.free p hp e
 unfold PySem.Env.kindOf
 rw[ek.names];exact this)
theorem Iz(ek:AJ X Ad env ns)(k:ES ns Γ sc x)(Cd:Addr):AJ X Ad (compEnvC sc (Bm env.cells sc.names []) Cd env) (relabel sc env).names:=
 ⟨rfl,k.kind,ek.glo,ek.blt,ek.frm,fun y hy=>by
  obtain⟨kd,hk,hd⟩:∃kd,(compEnvC sc (Bm env.cells sc.names []) Cd env).kindOf y=some kd/\(kd=.cell\/kd=.free):=by
   rcases hy with e | e
   .exact ⟨_,e,.inl rfl⟩
   .exact ⟨_,e,.inr rfl⟩
  obtain⟨k₀,h1,h2⟩:=DQ env y hk
  have hm₀:=Gj h1
  have hf:k₀=.free:=by
   rcases h2 with rfl | ⟨_,h⟩
   .rcases hd with rfl | rfl
    .exact absurd rfl (k.cell _ hm₀)
    .rfl
   .exact h
  subst hf
  show((Bm env.cells sc.names []).lookup y).isSome=true
  rw[CE sc.names [] (C8 ek k) (.inl hm₀) (.inl rfl)]
  exact C8 ek k _ hm₀ rfl⟩
theorem KQ(ek:AJ X Ad env ns)(k:ES ns Γ sc x)
  (eo:EO U X ρ env Γ vs) (l:ρ <+:ρ') {ex':List (Addr×Obj)} (hex:∀p ∈ X.ex,p ∈ ex') {oC:Obj} {mC:Str->Option Value} (hm:(Cd,oC) ∈ ex') (Dn:∀h:Heap,h.get? Cd=some oC->h.Ns Cd mC) {v:V} {v':Value} (hv:Aq U ρ' v v') (hx:mC x=some v'):
  EO U (X.withEx ex') ρ' (compEnvC sc (Bm env.cells sc.names []) Cd env) (Γ++[x]) (vs++[some v]):=by
 have kx:(compEnvC sc (Bm env.cells sc.names []) Cd env).kindOf x=some .local:=lookup_relabel_local k.it
 refine⟨by simp[eo.len],fun i w y hw hy hvis=> ?_⟩
 by_cases hi:i < Γ.length
 .rw [List.getElem?_append_left hi]at hy
  rw[List.getElem?_append_left (by rw[eo.len];exact hi)]at hw
  have hmem:y ∈ Γ:=List.mem_of_getElem? hy
  cases hk:(compEnvC sc (Bm env.cells sc.names []) Cd env).kindOf y with
  | none=>rw[hk]at hvis;cases hvis
  | some kd=>
   rw[hk]at hvis
   obtain⟨k₀,h1,h2⟩:=DQ env y hk
   have hm₀:=Gj h1
   have hfree:k₀=.free:=by
    cases k₀ with
    | free=>rfl
    | «local»=>
     rcases(k.loc _ hm₀ rfl).1 with e | e
     .exact absurd (show x ∈ Γ from(show y=x from e)▸hmem) k.out
     .exact absurd (show Str.ofString ".0" ∈ Γ from(show y=_ from e)▸hmem) k.out0
    | cell=>exact absurd rfl (k.cell _ hm₀)
    | globalExplicit=>rcases h2 with rfl | ⟨_,h⟩<;>first | cases hvis | cases h
    | globalImplicit=>rcases h2 with rfl | ⟨_,h⟩<;>first | cases hvis | cases h
   subst hfree
   have hout:env.kindOf y=some .cell\/env.kindOf y=some .free:=by
    unfold PySem.Env.kindOf
    rw[ek.names];exact k.free _ hm₀ rfl
   have hvis2:bN (env.kindOf y)=true:=by rcases hout with e | e<;>rw[e]<;>rfl
   obtain⟨z,hz,lz⟩:=eo.get i w y hw hy hvis2
   refine⟨z,hz.mono l,.inr (.inl ⟨?_,?_⟩)⟩
   .rcases h2 with rfl | ⟨rfl,_⟩
    .exact .inr hk
    .exact .inl hk
   .rcases lz with⟨e,_⟩ | ⟨_,c,o,h1,h2,h3⟩ | ⟨e,_⟩
    .rcases hout with e2 | e2<;>rw[e]at e2<;>cases e2
    .refine ⟨c,o,?_,?_,h3⟩
     .show (Bm env.cells sc.names []).lookup y=some c
      rw[CE sc.names [] (C8 ek k) (.inl hm₀) (.inl rfl),h1]
     .rcases List.mem_append.mp h2 with h2 | h2
      .exact B1 _ h2
      .exact C9 _ (hex _ h2)
    .rcases hout with e2 | e2<;>rw[e]at e2<;>cases e2
 .have hi':i=Γ.length:=by
   have:=(Es.mp hy).1
   simp at this;exact eA ‹_› ‹_›
  subst hi'
  have ey:y=x:=by simpa using hy.symm
  subst ey
  have ew:w=v:=by rw[<-eo.len]at hw;simpa using hw.symm
  subst ew
  exact⟨v',hv,.inr (.inr ⟨kx,oC,mC,C9 _ hm,Dn,hx⟩)⟩
end
theorem Ae.later{α β:Type}{rel:A8->α->β->Prop}{r:R α}{Q:β->Shared->Prop}{ρ1:A8}(hp:Ae rel U xc X ρ r Q E s)(l:ρ <+:ρ1)(h:Heap)(tk:Nat):Ae rel U xc X ρ1 r Q E { s with heap:=h,toks:=tk}:=by
 cases r with
 | ok a H=>exact fun ρ' v' h' CG l'=>hp ρ' v' h' CG (l.trans l')
 | exc e H=>exact fun ρ' v' h' CG l'=>hp ρ' v' h' CG (l.trans l')
 | bad=>exact hp
noncomputable abbrev Yr(U:Un):A8->Option V->Option Value->Prop:=fun ρ o o'=>match o,o' with
 | some v,some y=>Aq U ρ v y
 | none,none=>True
 | _,_=>False
theorem JL{β:Type}(f:V->M (Option V))(post:M Unit)(v:V)(r:List V)(K:List V->M β):
  bnd (still (Bx f post (v::r))) K H=bnd (still (f v)) (fun y=>bnd (still post) fun J=>bnd (still (Bx f post r)) fun zs=>K (y.toList++zs)) H:=by
 rw[Bx]
 simp only [bnd,still]
 cases f v H with
 | ok y H1=>
  dsimp only
  cases post H1 with
  | ok u H2=>
   dsimp only
   cases Bx f post r H2<;>rfl
  | _=>rfl
 | _=>rfl
theorem Gk{α β:Type}{m:M α}{f:α->M β}{a:α}{H1:MH}(e:m H=.ok a H1):bnd (still m) f H=f a H1:=by
 simp only [bnd,still,e]
theorem G6{α β:Type}{m:M α}{f:α->M β}{a:Nat}{H1:MH}(e:m H=.exc a H1):bnd (still m) f H=.bad:=by
 simp only [bnd,still,e]
theorem Ex{α β:Type}{m:M α}{f:α->M β}(e:m H=.bad):bnd (still m) f H=.bad:=by
 simp only [bnd,still,e]
noncomputable def GJ(zs:List V):M V:=if zs.length<=BR then alloc (.list zs)else bad
inductive PM(U:Un)(xc:Value)(X:Fx)(ρ0:A8)(items:List V)(Ready:MH->Prop)(st:Nat->Obj->Prop)(f:V->M (Option V))(post:M Unit)(I Cd D:Addr)(Qf:Value->Shared->Prop)(s0:Shared)(r0:R V)(n:Nat)(s':Shared):Prop
 | mk (k:_) (ρk:_) (Hk:_) (h:_) (tk:_) (ys:_) (ws:_) (oI:_) (oC:_) (mC:_) (nD:_) (q0:s'={ s0 with heap:=h,toks:=tk}) (q1:n=items.length+1 - k) (q2:k<=items.length) (q3:ρ0 <+:ρk) (q4:AL U (X.withEx ((Cd,oC)::(I,oI)::(D,listOf (List.toArray ws) nD)::X.ex)) ρk Hk h) (q5:st k oI) (q6:(∀g:Heap,g.get? Cd=some oC->g.Ns Cd mC)) (q7:C1 U.sa ρk ys ws) (q8:ys.length<=k) (q9:Ready Hk) (q10:Ae (Aq U) U xc X ρk (bnd (still (Bx f post (items.drop k))) (fun zs=>GJ (ys++zs)) Hk) Qf (fun J J=>False) s') (q11:bnd (still (Bx f post (items.drop k))) (fun zs=>GJ (ys++zs)) Hk=r0):PM U xc X ρ0 items Ready st f post I Cd D Qf s0 r0 n s'
theorem I6{elt iter:Expr}{nm:Str}{px:Pos}{ifs:List Expr}{scope:Scope}{pos:Pos}{cenv:PySem.Env}{I Cd D:Addr}{items:List V}{Ready:MH->Prop}{st:Nat->Obj->Prop}{f:V->M (Option V)}{post:M Unit}
  {Qf:Value->Shared->Prop} {R:Result->Shared->Prop} {s0:Shared} {r0:Mine.R V} (Ba:items.length<=BR) (hD3:3 < D)
  (src:Xu U A I items Ready ρ0 st) (hpost:∀H,(post H=.ok () H/\Ready H)\/post H=.bad)
  (hx:cenv.kindOf nm=some .local) (hp:(cenv.scope.kind== .class||(cenv.scope.kind== .module&&cenv.locals != cenv.globals))=false) (hCd:cenv.locals=Cd)
  (turn:∀(ex':List (Addr×Obj)) ρ H s v v' (QQ:Option Value->Shared->Prop) E' oC mC,ρ0 <+:ρ->(∀p ∈ X.ex,p ∈ ex')->AL U (X.withEx ex') ρ H s.heap->Aq U ρ v v'->(Cd,oC) ∈ ex'->(∀g:Heap,g.get? Cd=some oC->g.Ns Cd mC)->mC nm=some v'->
   Ae (Yr U) U xc (X.withEx ex') ρ (f v H) QQ E' s->
   wpAny (model U.prog U.w) A (forIn ifs true fun c r=>if r=true then do let ok <-isTrue c cenv (eval c cenv);pure (ForInStep.yield ok)else pure (ForInStep.yield r))
    (fun ok s₃=>if ok=true then wpAny (model U.prog U.w) A (eval elt cenv) (fun y s₄=>QQ (some y) s₄) E' s₃ else QQ none s₃) E' s)
  (hR:∀ρ' H' v h' CG oC mC,ρ0 <+:ρ'->AL U (X.withEx ((Cd,oC)::X.ex)) ρ' H' h'->(∀g:Heap,g.get? Cd=some oC->g.Ns Cd mC)->Aq U ρ' v (.ref D)->r0=.ok v H'->Ae (Aq U) U xc X ρ' (.ok v H') Qf (fun J J=>False) { s0 with heap:=h',toks:=CG}->R (.ok .next) { s0 with heap:=h',toks:=CG})
  {m₀:Nat} {s₁:Shared} (h:PM U xc X ρ0 items Ready st f post I Cd D Qf s0 r0 m₀ s₁):
  codeAny (model U.prog U.w) A (.compLoop (.ListComp elt [⟨.Name nm px,iter,ifs,0⟩] scope pos) 0 (.ref I) (.ref D) cenv) R s₁:=by
 refine codeAny_compLoop_tests (fun n s'=>PM U xc X ρ0 items Ready st f post I Cd D Qf s0 r0 n s') ?_ m₀ h
 rintro n s' ⟨k,ρk,Hk,h,tk,ys,ws,oI,oC,mC,nD,rfl,rfl,hk,l0,F,hst,Dn,hys,hyk,hrd,hpk,hr0⟩
 have gI:h.get? I=some oI:=F.exGet (p:=(I,oI)) (.tail _ (.head _))
 cases hv:items[k]? with
 | none=>
  have hkl:k=items.length:=Nat.le_antisymm hk (by rw[List.getElem?_eq_none_iff]at hv;exact hv)
  subst hkl
  refine src.done (X.withEx ((Cd,oC)::(I,oI)::(D,listOf (List.toArray ws) nD)::X.ex)) ρk Hk _ oI _ _ l0 F gI hst hrd fun h₁ he=> ?_
  rw[List.drop_length]at hpk
  have e0:bnd (still (Bx f post [])) (fun zs=>GJ (ys++zs)) Hk=GJ (ys++[]) Hk:=rfl
  rw[e0,List.append_nil]at hpk
  rw[List.drop_length,e0,List.append_nil]at hr0
  unfold GJ at hpk hr0
  by_cases hl:ys.length<=BR
  .rw [if_pos hl]at hpk hr0
   have F1:AL U (X.withEx ((I,oI)::(Cd,oC)::(D,listOf (List.toArray ws) nD)::X.ex)) ρk Hk h:=by
    obtain⟨Fr',ps,p,N,Dd,lo⟩:=F
    have pm:((X.withEx ((Cd,oC)::(I,oI)::(D,listOf (List.toArray ws) nD)::X.ex)).px++ps.flatten).Perm ((X.withEx ((I,oI)::(Cd,oC)::(D,listOf (List.toArray ws) nD)::X.ex)).px++ps.flatten):=
     ((List.Perm.swap _ _ _).append_left _).append_right _
    exact⟨Fr',ps,p,DE N fun q hq=>pm.symm.subset hq,BP pm Dd,lo⟩
   have F2:=F1.dropEx he
   have F3:AL U (X.withEx ((D,listOf (List.toArray ws) nD)::(Cd,oC)::X.ex)) ρk Hk h₁:=by
    obtain⟨Fr',ps,p,N,Dd,lo⟩:=F2
    have pm:((X.withEx ((Cd,oC)::(D,listOf (List.toArray ws) nD)::X.ex)).px++ps.flatten).Perm ((X.withEx ((D,listOf (List.toArray ws) nD)::(Cd,oC)::X.ex)).px++ps.flatten):=
     ((List.Perm.swap _ _ _).append_left _).append_right _
    exact⟨Fr',ps,p,DE N fun q hq=>pm.symm.subset hq,BP pm Dd,lo⟩
   have F4:=F3.adopt (c:= .list ys) ⟨ws,nD,rfl,hys.mono (List.prefix_append ..)⟩ hD3
   have hl4:Hk.length=ρk.length:=(FS.len F).symm
   refine hR (ρk++[(D,D)]) (Hk++[Af.list ys]) (.ref Hk.length) h₁ tk oC mC (l0.trans (List.prefix_append ..)) F4 Dn ⟨(D,D),by rw[hl4];simp,rfl⟩ (hr0.symm.trans rfl) ?_
   exact fun ρ' v' h' CG l'=>hpk ρ' v' h' CG ((List.prefix_append ..).trans l')
  .rw [if_neg hl]at hpk;exact hpk.elim
 | some v=>
  have Ef:k < items.length:=(Es.mp hv).1
  have hdrop:items.drop k=v::items.drop (k+1):=by
   rw[List.drop_eq_getElem_cons Ef]
   rw[List.getElem?_eq_getElem Ef]at hv
   rw[Option.some.inj hv]
  refine src.item k (X.withEx ((Cd,oC)::(I,oI)::(D,listOf (List.toArray ws) nD)::X.ex)) ρk Hk _ oI v _ _ l0 hv F gI hst hrd fun v' h₁ oI' tk₁ hv' hs₁ ho₁ hst'=> ?_
  have F1:AL U (X.withEx ([(Cd,oC)]++(I,oI')::(D,listOf (List.toArray ws) nD)::X.ex)) ρk Hk h₁:=FS.setEx (X:=X.withEx ((Cd,oC)::(I,oI)::(D,listOf (List.toArray ws) nD)::X.ex)) (pre:=[(Cd,oC)]) F rfl hs₁ ho₁
  have gC:h₁.get? Cd=some oC:=F1.exGet (p:=(Cd,oC)) (.head _)
  refine wpAny_assign_Name (wpAny_storeName_local (m:=mC) hx (by rw[hCd];exact Dn h₁ gC) (fun h₂ hn₂ hs₂=> ?_) hp)
  rw[hCd]at hn₂ hs₂
  obtain⟨oC',es',ep',gC',hd',hk',hf'⟩:=hn₂
  have F2:AL U (X.withEx ((Cd,oC')::(I,oI')::(D,listOf (List.toArray ws) nD)::X.ex)) ρk Hk h₂:=FS.setEx (X:=X.withEx ((Cd,oC)::(I,oI')::(D,listOf (List.toArray ws) nD)::X.ex)) (pre:=[]) F1 rfl hs₂ gC'
  have hns':∀g:Heap,g.get? Cd=some oC'->g.Ns Cd (fun y=>if y=nm then some v' else mC y):=fun g hg=>⟨oC',es',ep',hg,hd',hk',hf'⟩
  rw[hdrop]at hpk hr0
  rw[JL]at hpk hr0
  refine turn ((Cd,oC')::(I,oI')::(D,listOf (List.toArray ws) nD)::X.ex) ρk Hk _ v v' _ oC' (fun y=>if y=nm then some v' else mC y) l0 (fun p hp=> .tail _ (.tail _ (.tail _ hp))) F2 hv' (.head _) hns' (by simp) (QQ:=fun o s₄=>match o with
   | some y=>wpAny (model U.prog U.w) A (call (.builtin "list.append") [.ref D,y]) (fun J s₅=>∃m,m < items.length+1 - k/\PM U xc X ρ0 items Ready st f post I Cd D Qf s0 r0 m s₅) (notedBy (model U.prog U.w) A cenv fun e s'=>R (.error e) s') s₄
   | none=>∃m,m < items.length+1 - k/\PM U xc X ρ0 items Ready st f post I Cd D Qf s0 r0 m s₄) ?_
  unfold Ae
  cases hfv:f v Hk with
  | bad=>rw[Ex hfv]at hpk;exact hpk.elim
  | exc e H1=>rw[G6 hfv]at hpk;exact hpk.elim
  | ok y H1=>
   rw[Gk hfv]at hpk hr0
   intro ρ1 y' h₃ tk₃ l1 F3 r3
   rcases hpost H1 with⟨AS,hrd1⟩ | AS
   .rw [Gk AS]at hpk hr0
    have e3:∀s':Shared,Ae (Aq U) U xc X ρ1 (bnd (still (Bx f post (items.drop (k+1)))) (fun zs=>GJ ((ys++y.toList)++zs)) H1) Qf (fun J J=>False) { s0 with heap:=s'.heap,toks:=s'.toks}:=by
     intro s'
     simp only [List.append_assoc]
     exact Ae.later hpk l1 _ _
    cases y with
    | none=>
     cases y' with
     | some _=>exact r3.elim
     | none=>
      refine⟨items.length+1 - (k+1),by exact dK ‹_›,⟨k+1,ρ1,H1,h₃,tk₃,ys,ws,oI',oC',_,nD,rfl,rfl,Ef,l0.trans l1,F3,hst',hns',hys.mono l1,Nat.le_succ_of_le hyk,hrd1,?_,?_⟩⟩
      .have:=e3 { s0 with heap:=h₃,toks:=tk₃}
       simpa using this
      .simpa using hr0
    | some z=>
     cases y' with
     | none=>exact r3.elim
     | some z'=>
      have gD:h₃.get? D=some (listOf (List.toArray ws) nD):=F3.exGet (p:=(D,_)) (.tail _ (.tail _ (.head _)))
      refine append_at (its:=ws.toArray) (n:=nD) gD (fun h₄ hs₄ ho₄=> ?_) ?_
      .have ho₄':h₄.get? D=some (listOf (List.toArray (ws++[z'])) (nD+1)):=by rw[ho₄,List.push_toArray]
       have F4:=FS.setEx (X:=X.withEx ((Cd,oC')::(I,oI')::(D,listOf (List.toArray ws) nD)::X.ex)) (pre:=[(Cd,oC'),(I,oI')]) F3 rfl hs₄ ho₄'
       exact⟨items.length+1 - (k+1),by exact dK ‹_›,⟨k+1,ρ1,H1,h₄,tk₃,ys++[z],ws++[z'],oI',oC',_,nD+1,rfl,rfl,Ef,l0.trans l1,F4,hst',hns',(hys.mono l1).append (.one r3),by rw[S2];exact Nat.succ_le_succ hyk,hrd1,e3 { s0 with heap:=h₄,toks:=tk₃},by rw[<-hr0];simp⟩⟩
      .rw [List.size_toArray,hys.length];exact BZ (by exact Nat.le_trans ‹_› (Nat.le_trans (Nat.le_of_lt ‹_›) ‹_›))
   .rw [Ex AS]at hpk
    exact hpk.elim
theorem JQ(gf:GF U X.G)(x:AL U X ρ H s.heap):3 < s.heap.objs.size:=by
 have h1:=x.fr.above
 have h2:(X.L:Nat) < s.heap.objs.size:=x.fr.ns.lt
 have h3:2 < X.G.objs.size:=by
  obtain⟨mc,hn,_⟩:=gf.T.nolimit
  exact hn.lt
 exact Nat.lt_of_le_of_lt (Nat.le_trans h3 h1) h2
set_option tactic.hygienic true in
theorem Gc{f:V->M (Option V)}{post:M Unit}{items:List V}{Q:Value->Shared->Prop}{E E':Value->Shared->Prop}(hp:Ae (Aq U) U xc X ρ (bnd (still (Bx f post items)) GJ H) Q E s):Ae (Aq U) U xc X ρ (bnd (still (Bx f post items)) GJ H) Q E' s:=by
 simp only [bnd,still]at hp ⊢
 cases q:Bx f post items H with
 | bad=>rw[q]at hp;exact hp.elim
 | exc e H1=>rw[q]at hp;exact hp.elim
 | ok ys H1=>
  rw[q]at hp
  dsimp only at hp ⊢
  unfold GJ at hp ⊢
  split at hp
  .rename_i h;rw[if_pos h];exact hp
  .exact hp.elim
theorem I9{elt iter:Expr}{nm:Str}{px:Pos}{ifs:List Expr}{scope:Scope}{pos:Pos}{cl:List (Str×Addr)}{I:Addr}{items:List V}{Ready:MH->Prop}{st:Nat->Obj->Prop}{f:V->M (Option V)}{post:M Unit}
  {Qf:Value->Shared->Prop} {oI:Obj} {use:Option (Value->Sem Unit)} {Q:Value->Shared->Prop} (gf:GF U X.G) (Ba:items.length<=BR)
  (F:AL U (X.withEx ((I,oI)::X.ex)) ρ H s.heap) (hst:st 0 oI) (src:Xu U A I items Ready ρ st) (hpost:∀H,(post H=.ok () H/\Ready H)\/post H=.bad) (rd:Ready H)
  (hcell:∀y ∈ scope.names,y.2≠.cell) (hkind:scope.kind=.function) (hx:scope.names.lookup nm=some .local)
  (hp:Ae (Aq U) U xc X ρ (bnd (still (Bx f post items)) GJ H) Qf (fun J J=>False) s)
  (turn:∀Cd (ex':List (Addr×Obj)) ρ' H s v v' (QQ:Option Value->Shared->Prop) E' oC mC,ρ <+:ρ'->(∀p ∈ X.ex,p ∈ ex')->AL U (X.withEx ex') ρ' H s.heap->Aq U ρ' v v'->(Cd,oC) ∈ ex'->(∀g:Heap,g.get? Cd=some oC->g.Ns Cd mC)->mC nm=some v'->
   Ae (Yr U) U xc (X.withEx ex') ρ' (f v H) QQ E' s->
   wpAny (model U.prog U.w) A (forIn ifs true fun c r=>if r=true then do let ok <-isTrue c (compEnvC scope cl Cd env) (eval c (compEnvC scope cl Cd env));pure (ForInStep.yield ok)else pure (ForInStep.yield r))
    (fun ok s₃=>if ok=true then wpAny (model U.prog U.w) A (eval elt (compEnvC scope cl Cd env)) (fun y s₄=>QQ (some y) s₄) E' s₃ else QQ none s₃) E' s)
  (hR:∀D Cd ρ' H' v h' CG oC mC,ρ <+:ρ'->AL U (X.withEx ((Cd,oC)::X.ex)) ρ' H' h'->(∀g:Heap,g.get? Cd=some oC->g.Ns Cd mC)->Aq U ρ' v (.ref D)->bnd (still (Bx f post items)) GJ H=.ok v H'->Ae (Aq U) U xc X ρ' (.ok v H') Qf (fun J J=>False) { s with heap:=h',toks:=CG}->
   compPost (model U.prog U.w) A E use Q (.ref D) Cd (.ok .next) { s with heap:=h',toks:=CG}):
  wpAny (model U.prog U.w) A (newList []) (fun acc s₃=>wpAny (model U.prog U.w) A (newFunctionEnv scope env.globals cl [] env.qual none .none (some env)) (fun cenv s₄=>
   codeAny (model U.prog U.w) A (.compStart (.ListComp elt [⟨.Name nm px,iter,ifs,0⟩] scope pos) 0 (.ref I) acc { cenv with scope:=relabel scope env}) (compPost (model U.prog U.w) A E use Q acc cenv.locals) s₄) E s₃) E s:=by
 refine wpAny_newObj_type (wpAny_newFunctionEnv hcell (by intro y hy;simp at hy) (fun h₁ hns₁ hsb₁=> ?_) hkind)
 dsimp only at hns₁ hsb₁ ⊢
 have F1:=FS.addEx (a:=s.heap.objs.size) (o:={ cls:= .type "list",data:= .seq #[]}) F (h':=s.heap.push { cls:= .type "list",data:= .seq #[]}) (fun b o e=>Dx _ e) (Heap.get?_push_size _ rfl) (Nat.le_refl _)
 generalize hH2:s.heap.push { cls:= .type "list",dict:=none,data:= .seq ([]:List Value).toArray}=H2 at hns₁ hsb₁ ⊢
 have hF1:AL U ((X.withEx ((I,oI)::X.ex)).withEx ((s.heap.objs.size,{ cls:= .type "list",data:= .seq #[]})::(I,oI)::X.ex)) ρ H H2:=hH2▸F1
 have hn₁:=hns₁
 obtain⟨oC,es,ep,gC,hd,hk,hf⟩:=hns₁
 have keep:∀b o,H2.get? b=some o->h₁.get? b=some o:=fun b o e=>(hsb₁.2 b (Nat.ne_of_lt (Heap.lt_size e))).trans (Dx _ e)
 have F2:=FS.addEx (a:=H2.objs.size) (o:=oC) hF1 keep gC (Nat.le_refl _)
 have hnsC:∀g:Heap,g.get? H2.objs.size=some oC->g.Ns H2.objs.size (fun x=>([]:List (Str×Value)).reverse.lookup x):=fun g hg=>⟨oC,es,ep,hg,hd,hk,hf⟩
 have F3:AL U (X.withEx ((H2.objs.size,oC)::(I,oI)::(s.heap.objs.size,listOf (List.toArray []) 0)::X.ex)) ρ H h₁:=by
  obtain⟨Fr',ps,p,N,Dd,lo⟩:=F2
  have pm:((X.withEx ((H2.objs.size,oC)::(s.heap.objs.size,listOf (List.toArray []) 0)::(I,oI)::X.ex)).px++ps.flatten).Perm ((X.withEx ((H2.objs.size,oC)::(I,oI)::(s.heap.objs.size,listOf (List.toArray []) 0)::X.ex)).px++ps.flatten):=
   (((List.Perm.swap _ _ _).cons _).append_left _).append_right _
  exact⟨Fr',ps,p,DE N fun q hq=>pm.symm.subset hq,BP pm Dd,lo⟩
 have inv:PM U xc X ρ items Ready st f post I H2.objs.size s.heap.objs.size Qf s (bnd (still (Bx f post items)) GJ H) (items.length+1 - 0) { s with heap:=h₁,toks:=s.toks+([]:List (Str×Value)).length}:=
  ⟨0,ρ,H,h₁,_,[],[],oI,oC,_,0,rfl,rfl,Nat.zero_le _,BE _,F3,hst,hnsC,trivial,Nat.le_refl _,rd,Ae.later hp (BE _) _ _,rfl⟩
 have loop:∀s₃:Shared,s₃={ s with heap:=h₁,toks:=s.toks+([]:List (Str×Value)).length}->
   codeAny (model U.prog U.w) A (.compLoop (.ListComp elt [⟨.Name nm px,iter,ifs,0⟩] scope pos) 0 (.ref I) (.ref s.heap.objs.size) (compEnvC scope cl H2.objs.size env))
    (compPost (model U.prog U.w) A E use Q (.ref s.heap.objs.size) H2.objs.size) s₃:=by
  rintro s₃ rfl
  exact I6 (xc:=xc) (X:=X) (ρ0:=ρ) (Qf:=Qf) Ba (JQ (X:=X.withEx ((I,oI)::X.ex)) gf F) src hpost (cenv:=compEnvC scope cl H2.objs.size env) (lookup_relabel_local hx) (by simp[compEnvC,relabel,hkind]) rfl
   (turn H2.objs.size) (fun ρ' H' v h' CG oC mC l F Dn hv er hp=>hR _ _ ρ' H' v h' CG oC mC l F Dn hv er hp) inv
 have gI:h₁.get? I=some oI:=FS.exGet F3 (p:=(I,oI)) (.tail _ (.head _))
 exact codeAny_compStart_list (loop _ rfl) (src.self 0 _ oI _ _ gI hst (loop _ rfl))
noncomputable def BW(ns:Dm)(l:Dm):Dm:=l.map fun(n,k)=>if (k==NameKind.free&&ns.lookup n==some .cell)then(n,NameKind.cell)else(n,k)
noncomputable def E0(e:Expr):Bool:= @Expr.casesOn (fun J=>Bool) e (fun J J J=>true) (fun J J J=>true) (fun J J J J=>true) (fun J J J=>true) (fun J J J J=>true) (fun J J J J=>true) (fun J J J=>true) (fun J J J=>false) (fun J J J J=>true) (fun J J J J=>true) (fun J J J J J=>true) (fun J J J J=>true) (fun J J=>true) (fun J J=>true) (fun J J=>true) (fun J J J J=>true) (fun J J J J=>true) (fun J J J J=>true) (fun J J=>true) (fun J J J=>true) (fun J J J=>true) (fun J J J=>true) (fun J J=>true) (fun J J=>true) (fun J J=>true) (fun J J J=>true) (fun J J J J=>true)
theorem Dc{e:Expr}{env:PySem.Env}(h:E0 e=true):∀x,foldedSetIterable e env x=pure x:=by
 intro x
 refine Eq.symm (XA h ?_);clear h
 cases e<;>first | exact rfl | exact True.intro
theorem Eu(ek:AJ X Ad env ns)(sc:Scope):(relabel sc env).names=BW ns sc.names:=by
 unfold relabel BW PySem.Env.kindOf
 rw[ek.names,ek.kind]
 simp
theorem AJ.ex(ek:AJ X Ad env ns)(ex:List (Addr×Obj)):AJ (X.withEx ex) Ad env ns:=⟨ek.names,ek.kind,ek.glo,ek.blt,ek.frm,ek.hc⟩
theorem Cx.ex(cx:Cx U A X Ad n)(ex:List (Addr×Obj)):Cx U A (X.withEx ex) Ad n:=⟨cx.B,cx.hA,cx.hf,cx.hk,cx.hh,cx.hd,cx.hu,cx.gf⟩
noncomputable def Fin(U:Un)(xc:Value)(X:Fx)(A:Around)(E:Value->Shared->Prop)(use:Option (Value->Sem Unit))(ρ:A8)(r0:R V)(Qf Q:Value->Shared->Prop)(s:Shared):Prop:=
 ∀D Cd ρ' H' v h' CG oC mC,ρ <+:ρ'->AL U (X.withEx ((Cd,oC)::X.ex)) ρ' H' h'->(∀g:Heap,g.get? Cd=some oC->g.Ns Cd mC)->Aq U ρ' v (.ref D)->r0=.ok v H'->Ae (Aq U) U xc X ρ' (.ok v H') Qf (fun J J=>False) { s with heap:=h',toks:=CG}->
  compPost (model U.prog U.w) A E use Q (.ref D) Cd (.ok .next) { s with heap:=h',toks:=CG}
theorem Mi{Q:Value->Shared->Prop}{r0:R V}:Fin U xc X A E none ρ r0 Q Q s:=by
 intro D Cd ρ' H' v h' CG oC mC l x Dn r _ hp
 refine⟨mC,Dn _ (x.exGet (p:=(Cd,oC)) (.head _)),fun h'' hs=> ?_⟩
 exact hp ρ' (.ref D) h'' CG (BE _) (x.dropEx hs.extBut) r
noncomputable def Eg(sc:Scope)(gens:List Comprehension)(pos:Pos)(e:Expr)(newAcc:Sem Value)(env:PySem.Env)(use:Option (Value->Sem Unit)):Sem Value:=
 comprehension e sc env (firstIterPos gens pos) newAcc (firstAsync gens) (firstIter gens env) use
noncomputable def Tw(U:Un)(xc:Value)(C:Iv Fn)(A:Around)(X:Fx)(env:PySem.Env)(Γ:List Str)(m:ME Fn)(sem:Option (Value->Sem Unit)->Sem Value):Prop:=
 ∀ρ H s vs use Qf Q E,AL U X ρ H s.heap->EO U X ρ env Γ vs->Ae (Aq U) U xc X ρ (Ac C m vs H) Qf E s->(∀ρ' h tk,ρ <+:ρ'->Fin U xc X A E use ρ' (Ac C m vs H) Qf Q { s with heap:=h,toks:=tk})->wpAny (model U.prog U.w) A (sem use) Q E s
theorem I0{sc:Scope}{x:Str}(ek:AJ X Ad env ns)(k:ES ns Γ sc x)(cx:Cx U A X Ad n){me:ME Fn}{elt:Expr}
  (h2:∀X' Ai,Cx U A X' Ad n->AJ X' Ad Ai (BW ns sc.names)->SE U xc C A X' Ai (Γ++[x]) me elt) (eo:EO U X ρ env Γ vs)
  (Cd:Addr) (ex':List (Addr×Obj)) (ρ':A8) (H:MH) (s:Shared) (v:V) (v':Value) (QQ:Option Value->Shared->Prop) (E':Value->Shared->Prop) (oC:Obj) (mC:Str->Option Value) (l:ρ <+:ρ') (hex:∀p ∈ X.ex,p ∈ ex') (F:AL U (X.withEx ex') ρ' H s.heap) (hv:Aq U ρ' v v') (hm:(Cd,oC) ∈ ex') (Dn:∀g:Heap,g.get? Cd=some oC->g.Ns Cd mC) (hx:mC x=some v')
  (hp:Ae (Yr U) U xc (X.withEx ex') ρ' (bnd (Ac C me (vs++[some v])) (fun y=>Mine.ret (some y)) H) QQ E' s):
  wpAny (model U.prog U.w) A (eval elt (compEnvC sc (Bm env.cells sc.names []) Cd env)) (fun y s₄=>QQ (some y) s₄) E' s:=by
 have ek2:=Iz ek k Cd
 rw[Eu ek]at ek2
 refine h2 (X.withEx ex') _ (cx.ex ex') (ek2.ex ex') ρ' H s _ _ E' F (KQ ek k eo l hex hm Dn hv hx) (hp.bnd (rel1:=Aq U) fun y H2 ρ2 y' h2 tk2 J l2 x2 r2 Cb=> ?_)
 exact Cb ρ2 (some y') h2 tk2 (BE _) x2 r2
theorem I1{M:Model}{env:PySem.Env}{Q:Bool->Shared->Prop}(h:Q true s):wpAny M A (forIn ([]:List Expr) true fun c r=>if r=true then do let ok <-isTrue c env (eval c env);pure (ForInStep.yield ok)else pure (ForInStep.yield r)) Q E s:=BH h
theorem S4{M:Model}{env:PySem.Env}{Q:Bool->Shared->Prop}{c:Expr}(h:wpAny M A (isTrue c env (eval c env)) Q E s):wpAny M A (forIn [c] true fun c r=>if r=true then do let ok <-isTrue c env (eval c env);pure (ForInStep.yield ok)else pure (ForInStep.yield r)) Q E s:=by
 rw[List.forIn_cons]
 refine As ?_
 rw[if_pos rfl]
 refine As (wpAny_mono h (fun t s' hq=>BH ?_) fun J J e=>e)
 exact BH hq
set_option tactic.hygienic true in
theorem N5{elt iter:Expr}{sc:Scope}{x:Str}{px:Pos}{me mi:ME Fn}(cx:Cx U A X Ad n)(ek:AJ X Ad env ns)(k:ES ns Γ sc x)(hset:E0 iter=true)
  (h1:SE U xc C A X env Γ mi iter)
  (h2:∀X' Ai,Cx U A X' Ad n->AJ X' Ad Ai (BW ns sc.names)->SE U xc C A X' Ai (Γ++[x]) me elt):
  Tw U xc C A X env Γ (.comp me mi) (Eg sc [⟨.Name x px,iter,[],0⟩] pos (.ListComp elt [⟨.Name x px,iter,[],0⟩] sc pos) (newList []) env):=by
 intro ρ H s vs use Qf Q E hx eo hp fin
 refine wpAny_comprehension_free (cl:=Bm env.cells sc.names []) rfl (Dc hset) (CF (C8 ek k)) k.kind (fun p hp e=>(k.loc p hp e).2) ?_
 refine h1 ρ H s vs _ E hx eo (hp.bnd (rel1:=Aq U) fun l H1 ρ1 l' h1 Bk he l1 x1 r1 AS=> ?_)
 obtain⟨i,c,rfl,hc,Cb⟩:=Pt AS
 obtain⟨_,c',e,hc',hp3⟩:=Pt Cb.as
 cases e
 cases hc.symm.trans hc'
 cases c<;>first | exact hp3.elim | skip
 rename_i xs
 have hl:xs.length<=BR:=FW hp3 fun hl _=>hl
 have hp4:Ae (Aq U) U xc X ρ1 (bnd (still (Bx (fun x=>bnd (Ac C me (vs++[some x])) fun y=>Mine.ret (some y)) (stays (.ref i) (.list xs)) xs)) GJ H1) Qf E { s with heap:=h1,toks:=Bk}:=FW hp3 fun _ hp=>hp
 have ee:Ac C (.comp me mi) vs H=bnd (still (Bx (fun x=>bnd (Ac C me (vs++[some x])) fun y=>Mine.ret (some y)) (stays (.ref i) (.list xs)) xs)) GJ H1:=(FI he).trans ((C7 hc).trans (Lv hc hl))
 obtain⟨a,e1,lo,ws,il,vv⟩:=FS.at (s:={ s with heap:=h1,toks:=Bk}) x1 hc
 obtain⟨p,ep,rfl⟩:=r1
 have ep':=ep
 rw[e1]at ep;cases ep
 refine wpAny_pyIter_list (s:={ s with heap:=h1,toks:=Bk}) il ?_
 have hh:A.handled=none:=cx.hh
 have F:=FS.addEx (a:=h1.objs.size) (o:={ cls:= .type "list_iterator",data:= .fields #[.ref a.1,.int 0 0]}) x1 (fun b o e=>Dx _ e) (Heap.get?_push_size _ rfl) (Nat.le_refl _)
 refine I9 (xc:=xc) (X:=X) (ρ:=ρ1) (H:=H1) (items:=xs) (st:=fun k o=>o.cls=.type "list_iterator"/\o.data=.fields #[.ref a.1,.int k 0]) (Ready:=fun H=>H[i]? =some (.list xs)) cx.gf hl F ⟨rfl,rfl⟩
  (LM hh ep') (fun H=>D3 H) hc k.cell k.kind k.it (Ae.later (Gc hp4) (BE _) _ _) (fun Cd ex' ρ' H s v v' QQ E' oC mC l hex F hv hm Dn hx hp=> ?_) (fun D Cd ρ' H' v h' CG oC mC l F Dn hv er hp=>fin _ _ _ (l1.trans l) D Cd ρ' H' v h' CG oC mC (BE _) F Dn hv (ee.trans er) hp)
 refine I1 ?_
 rw[if_pos rfl]
 exact I0 ek k cx h2 (eo.mono l1) Cd ex' ρ' H s v v' QQ E' oC mC l hex F hv hm Dn hx hp
noncomputable def Em(lo hi:Int)(k:Nat):Obj:={ cls:= .type "range_iterator",dict:=none,data:= .fields #[rawInt (lo+k),rawInt (((hi - lo).toNat:Int) - k),rawInt 1],slots:=#[]}
theorem F7{lo hi:Int}(h0:0<=lo)(h1:lo<=BR)(h2:hi<=BR)(h3: -(BR:Int)<=hi):Builtin.Range.small lo hi 1=true:=by
 unfold BR at *
 exact small_one (by exact eC ‹_›) (by exact eB ‹_› (by rfl)) (by exact Int.le_trans (by decide) h3) (by exact eB ‹_› (by rfl))
theorem NY(lo hi:Int):({ cls:= .type "range_iterator",data:= .fields #[rawInt lo,rawInt (Builtin.Range.rangeSize lo hi 1),rawInt 1]}:Obj)=Em lo hi 0:=by
 unfold Em
 rw[rangeSize_one]
 have e1:lo+((0:Nat):Int)=lo:=by simp
 have e2:(((hi - lo).toNat:Nat):Int) - ((0:Nat):Int)=if lo < hi then hi - lo else 0:=by split<;>omega
 rw[e1,e2]
theorem Ga{lo hi:Int}{t u v:Tok}{Q:Value->Shared->Prop}(x:AL U X ρ H s.heap)(hf:Builtin.Range.small lo hi 1=true)
  (k:∀h1 I,AL U (X.withEx ((I,Em lo hi 0)::X.ex)) ρ H h1->Q (.ref I) { s with heap:=h1}):
  wpAny (model U.prog U.w) A (pyIter (.ref s.heap.objs.size)) Q E { s with heap:=s.heap.push { cls:= .type "range",data:= .fields #[.int lo t,.int hi u,.int 1 v]}}:=by
 refine wpAny_pyIter_range (s:={ s with heap:=s.heap.push { cls:= .type "range",data:= .fields #[.int lo t,.int hi u,.int 1 v]}}) (IsRange.new s.heap lo hi 1 t u v) hf ?_
 rw[NY]
 refine k _ _ ?_
 exact FS.addEx (x.keeps fun b o e=>Dx _ e) (fun b o e=>Dx _ e) (Heap.get?_push_size _ rfl) (Nat.le_refl _)
theorem HC{α β:Type}{rel:A8->α->β->Prop}{Q:β->Shared->Prop}{Q':Value->Shared->Prop}{g:Int->M α}{m:ME Fn}{e:Expr}(ek:AJ X Ad env ns)(gf:GF U X.G)(ub:UB U)(hn:Df ns "range"=true)(hs:Ar e=true)
  (h:SE U xc C A X env Γ m e) (x:AL U X ρ H s.heap) (eo:EO U X ρ env Γ vs)
  (hp:Ae rel U xc X ρ (bnd (Ac C m vs) (fun k=>vI k Mine.bad fun n=>if 0<=n/\n<=BR then g n else Mine.bad) H) Q E s)
  (k:∀ρ1 H1 h1 Bk (n:Int) I,ρ <+:ρ1->0<=n->n<=BR->bnd (Ac C m vs) (fun k=>vI k Mine.bad fun n=>if 0<=n/\n<=BR then g n else Mine.bad) H=g n H1->AL U (X.withEx ((I,Em 0 n 0)::X.ex)) ρ1 H1 h1->Ae rel U xc X ρ1 (g n H1) Q E { s with heap:=h1,toks:=Bk}->Q' (.ref I) { s with heap:=h1,toks:=Bk}):
  wpAny (model U.prog U.w) A (eval (.Call (.Name "range" np) [e] [] pos) env) (fun y s₁=>wpAny (model U.prog U.w) A (pyIter y) Q' E s₁) E s:=by
 refine By (BN ek gf x hn (ub.blt "range" (by decide)) rfl (C0 (nm:="range") (by decide)) ?_)
 refine Au (P:=fun J=>True) (by simp[hs]) Du ?_
 refine spliced_more (h ρ H s vs _ E x eo (hp.bnd (rel1:=Aq U) fun v H1 ρ1 v' h1 Bk he l1 x1 r1 AS=> ?_)) (AH hs)
 refine wpAny_items_nil ⟨trivial,?_⟩
 refine E7 (P:=fun v=>Ac C m vs H=.ok v H1->Aq U ρ1 v v'->_) AS (fun n AS he r1=>CA AS fun hb AS=> ?_) he r1
 refine r1.intE (P:=fun y=>wpAny _ _ (call _ [y]) _ _ _) fun t=> ?_
 refine call_range_1 (Ga (s:={ s with heap:=h1,toks:=Bk+1+1}) x1 (F7 (by decide) (by unfold BR;decide) hb.2 (by have:=hb.1;unfold BR;exact eC ‹_›)) fun h2 I F=> ?_)
 exact k ρ1 H1 h2 _ n I l1 hb.1 hb.2 ((FI he).trans (congrFun (if_pos hb) H1)) F (Ae.later AS (BE _) _ _)
theorem IA{n:Int}(h:n<=BR):(BU 0 n).length<=BR:=by
 unfold BU
 rw[List.length_map,List.length_range]
 exact Int.toNat_le.mpr ((Int.sub_zero _).symm▸‹_›)
theorem MI{elt e:Expr}{sc:Scope}{x:Str}{px:Pos}{me mn:ME Fn}{p2 p3:Pos}(cx:Cx U A X Ad n)(ek:AJ X Ad env ns)(ub:UB U)(k:ES ns Γ sc x)(hn:Df ns "range"=true)(hs:Ar e=true)
  (h1:SE U xc C A X env Γ mn e)
  (h2:∀X' Ai,Cx U A X' Ad n->AJ X' Ad Ai (BW ns sc.names)->SE U xc C A X' Ai (Γ++[x]) me elt):
  Tw U xc C A X env Γ (.compR me mn) (Eg sc [⟨.Name x px,.Call (.Name "range" p2) [e] [] p3,[],0⟩] pos (.ListComp elt [⟨.Name x px,.Call (.Name "range" p2) [e] [] p3,[],0⟩] sc pos) (newList []) env):=by
 intro ρ H s vs use Qf Q E hx eo hp fin
 refine wpAny_comprehension_free (cl:=Bm env.cells sc.names []) rfl (Dc rfl) (CF (C8 ek k)) k.kind (fun p hp e=>(k.loc p hp e).2) ?_
 refine HC ek cx.gf ub hn hs h1 hx eo hp fun ρ1 H1 h1 Bk n I l1 h0 hl ee F AS=> ?_
 have hh:A.handled=none:=cx.hh
 refine I9 (s:={ s with heap:=h1,toks:=Bk}) (xc:=xc) (X:=X) (ρ:=ρ1) (H:=H1) (items:=BU 0 n) (st:=fun k o=>o=Em 0 n k) (Ready:=fun J=>True) cx.gf (IA hl) F rfl
  (FE hh) (fun H=> .inl ⟨rfl,trivial⟩) trivial k.cell k.kind k.it (Ae.later (Gc AS) (BE _) _ _) (fun Cd ex' ρ' H s v v' QQ E' oC mC l hex F hv hm Dn hx hp=> ?_) (fun D Cd ρ' H' v h' CG oC mC l F Dn hv er hp=>fin _ _ _ (l1.trans l) D Cd ρ' H' v h' CG oC mC (BE _) F Dn hv (ee.trans er) hp)
 refine I1 ?_
 rw[if_pos rfl]
 exact I0 ek k cx h2 (eo.mono l1) Cd ex' ρ' H s v v' QQ E' oC mC l hex F hv hm Dn hx hp
theorem QO{elt e c:Expr}{sc:Scope}{x:Str}{px:Pos}{me mc mn:ME Fn}{p2 p3:Pos}(cx:Cx U A X Ad n)(ek:AJ X Ad env ns)(ub:UB U)(k:ES ns Γ sc x)(hn:Df ns "range"=true)(hs:Ar e=true)
  (h1:SE U xc C A X env Γ mn e)
  (h2:∀X' Ai,Cx U A X' Ad n->AJ X' Ad Ai (BW ns sc.names)->SE U xc C A X' Ai (Γ++[x]) me elt)
  (h3:∀X' Ai,Cx U A X' Ad n->AJ X' Ad Ai (BW ns sc.names)->ST U xc C A X' Ai (Γ++[x]) mc c):
  Tw U xc C A X env Γ (.compIf me mc mn) (Eg sc [⟨.Name x px,.Call (.Name "range" p2) [e] [] p3,[c],0⟩] pos (.ListComp elt [⟨.Name x px,.Call (.Name "range" p2) [e] [] p3,[c],0⟩] sc pos) (newList []) env):=by
 intro ρ H s vs use Qf Q E hx eo hp fin
 refine wpAny_comprehension_free (cl:=Bm env.cells sc.names []) rfl (Dc rfl) (CF (C8 ek k)) k.kind (fun p hp e=>(k.loc p hp e).2) ?_
 refine HC ek cx.gf ub hn hs h1 hx eo hp fun ρ1 H1 h1 Bk n I l1 h0 hl ee F AS=> ?_
 have hh:A.handled=none:=cx.hh
 refine I9 (s:={ s with heap:=h1,toks:=Bk}) (xc:=xc) (X:=X) (ρ:=ρ1) (H:=H1) (items:=BU 0 n) (st:=fun k o=>o=Em 0 n k) (Ready:=fun J=>True) cx.gf (IA hl) F rfl
  (FE hh) (fun H=> .inl ⟨rfl,trivial⟩) trivial k.cell k.kind k.it (Ae.later (Gc AS) (BE _) _ _) (fun Cd ex' ρ' H s v v' QQ E' oC mC l hex F hv hm Dn hx hp=> ?_) (fun D Cd ρ' H' v h' CG oC mC l F Dn hv er hp=>fin _ _ _ (l1.trans l) D Cd ρ' H' v h' CG oC mC (BE _) F Dn hv (ee.trans er) hp)
 refine S4 ?_
 have ek2:=Iz ek k Cd
 rw[Eu ek]at ek2
 have eo1:=eo.mono (env:=env) (Γ:=Γ) (vs:=vs) l1
 have e0:bnd (Ac C mc (vs++[some v])) (fun c=>bnd (AG c) fun t=>if t=true then bnd (Ac C me (vs++[some v])) fun y=>Mine.ret (some y)else Mine.ret Option.none) H=bnd (bnd (Ac C mc (vs++[some v])) AG) (fun t=>if t=true then bnd (Ac C me (vs++[some v])) fun y=>Mine.ret (some y)else Mine.ret Option.none) H:=by
  simp only [bnd]
  cases Ac C mc (vs++[some v]) H<;>rfl
 rw[e0]at hp
 refine h3 (X.withEx ex') _ (cx.ex ex') (ek2.ex ex') ρ' H s _ _ E' F (KQ ek k eo1 l hex hm Dn hv hx) (hp.bnd (rel1:=WW) fun u H2 ρ2 t' h2' tk2 J l2 x2 r2 Cb=> ?_)
 cases(r2)
 cases u
 .exact Cb ρ2 none h2' tk2 (BE _) x2 trivial
 .rw [if_pos rfl]at Cb ⊢
  exact I0 ek k cx h2 eo1 Cd ex' ρ2 H2 _ v v' QQ E' oC mC (l.trans l2) hex x2 (hv.mono l2) hm Dn hx Cb
noncomputable abbrev Un.pinAt(U:Un)(a:Addr)(o:Obj):Un:={ U with pin:=fun b=>if b=a then some o else U.pin b}
theorem PR.map{U U':Un}{ρ:A8}:∀{H H':MH} {r:A8} {ps:List (List (Addr×Obj))},PR U ρ H r ps->H'.length=H.length->
  (∀(j:Nat) c c' a l,H[j]? =some c->H'[j]? =some c'->r[j]? =some a->ps[j]? =some l->CR U ρ c a l->CR U' ρ c' a l)->PR U' ρ H' r ps
 | [],[],[],[],_,_,_=>trivial
 | c::H,c'::H',a::r,l::ps,⟨x,y⟩,e,k=>
  ⟨k 0 c c' a l rfl rfl rfl rfl x,PR.map y (by simpa using e) fun j c c' a l e1 e2 e3 e4=>k (j+1) c c' a l (by simpa using e1) (by simpa using e2) (by simpa using e3) (by simpa using e4)⟩
 | [],_::_,_,_,_,e,_=>by simp at e
 | _::_,[],_,_,_,e,_=>by simp at e
 | [],[],_::_,_,x,_,_=>x.elim
 | [],[],[],_::_,x,_,_=>x.elim
 | _::_,_::_,[],_,x,_,_=>x.elim
 | _::_,_::_,_::_,[],x,_,_=>x.elim
theorem I8{ps:List (List (Addr×Obj))}(d:BC ps.flatten){i j:Nat}{a b:Addr}{oa ob:Obj}(hi:ps[i]? =some [(a,oa)])(hj:ps[j]? =some [(b,ob)])(hn:i≠j):a≠b:=by
 unfold BC at d
 rw[List.map_flatten]at d
 unfold List.Nodup at d
 rw[List.pairwise_flatten]at d
 have d2:=d.2
 rw[List.pairwise_iff_getElem]at d2
 have li:i < (ps.map (List.map (·.1))).length:=by have:=(Es.mp hi).1;simpa using this
 have lj:j < (ps.map (List.map (·.1))).length:=by have:=(Es.mp hj).1;simpa using this
 have ei:(ps.map (List.map (·.1)))[i]=[a]:=by
  have:=(Es.mp hi).2
  simp[this]
 have ej:(ps.map (List.map (·.1)))[j]=[b]:=by
  have:=(Es.mp hj).2
  simp[this]
 intro e
 subst e
 rcases Nat.lt_or_gt_of_ne hn with h | h
 .have:=d2 i j li lj h
  rw[ei,ej]at this
  exact this _ (List.mem_singleton.mpr rfl) _ (List.mem_singleton.mpr rfl) rfl
 .have:=d2 j i lj li h
  rw[ei,ej]at this
  exact this _ (List.mem_singleton.mpr rfl) _ (List.mem_singleton.mpr rfl) rfl
theorem I2{l l':List (Addr×Obj)}(d:BC (l++l')):BC l':=by
 unfold BC at *
 rw[List.map_append,List.nodup_append]at d
 exact d.2.1
theorem PR.get{U:Un}{ρ:A8}:∀{H:MH} {r:A8} {ps:List (List (Addr×Obj))} {i:Nat} {c:Af},PR U ρ H r ps->H[i]? =some c->∃a l,r[i]? =some a/\ps[i]? =some l/\CR U ρ c a l
 | c::H,a::r,l::ps,0,_,⟨x,_⟩,e=>by simp at e;subst e;exact⟨a,l,rfl,rfl,x⟩
 | c::H,a::r,l::ps,i+1,_,⟨_,y⟩,e=>by
  simp only [List.getElem?_cons_succ]at e ⊢
  exact y.get e
 | [],_,_,_,_,_,e=>by simp at e
 | _::_,[],_,_,_,x,_=>x.elim
 | _::_,_::_,[],_,_,x,_=>x.elim
inductive FS.pinnedI(U:Un)(X:Fx)(ρ:A8)(H:MH)(h:Heap)(i:Nat)(kvs:List (Nat×V)):Prop
 | mk (a:_) (o:_) (es:_) (q0:ρ[i]? =some a) (q1:3 < a.1) (q2:h.get? a.1=some o) (q3:o.IsDictOf (PySem.strKind U.prog U.w) es) (q4:Gf U.sa ρ kvs es) (q5:AL (U.pinAt a.1 o) X ρ (H.set i (.dictP kvs)) h):FS.pinnedI U X ρ H h i kvs
theorem FS.pinned(x:AL U X ρ H h){i:Nat}{kvs:List (Nat×V)}(hc:H[i]? =some (.dictW kvs)):FS.pinnedI U X ρ H h i kvs:=by
 obtain⟨F,ps,p,N,D,lo⟩:=x
 obtain⟨a,l,e1,e2,o,es,rfl,hd,hw⟩:=p.get hc
 have hmem:(a.1,o) ∈ ps.flatten:=List.mem_flatten.mpr ⟨_,List.mem_of_getElem? e2,.head _⟩
 refine⟨a,o,es,e1,lo _ hmem,(N _ (C9 _ hmem)).1,hd,hw,F,ps,?_,N,D,lo⟩
 refine p.map (by simp) fun j c c' a' l' h1 h2 h3 h4 y=> ?_
 by_cases hj:j=i
 .subst hj
  rw[hc]at h1;cases h1
  rw[List.getElem?_set_self (Es.mp hc).1]at h2
  cases h2
  rw[e1]at h3;cases h3
  rw[e2]at h4;cases h4
  exact⟨o,es,rfl,hd,hw,if_pos rfl⟩
 .rw [List.getElem?_set_ne (Ne.symm hj),h1]at h2
  cases h2
  cases c with
  | dictP xs=>
   obtain⟨o',es',rfl,d',w',p'⟩:=y
   refine⟨o',es',rfl,d',w',?_⟩
   show(if a'.1=a.1 then some o else U.pin a'.1)=some o'
   rw[if_neg (I8 (I2 D) h4 e2 hj)]
   exact p'
  | _=>exact y
theorem FS.unpinned{a:Addr×Addr}{o:Obj}(x:AL (U.pinAt a.1 o) X ρ H h){i:Nat}{kvs:List (Nat×V)}(hc:H[i]? =some (.dictP kvs))(ha:ρ[i]? =some a):AL U X ρ (H.set i (.dictW kvs)) h:=by
 obtain⟨F,ps,p,N,D,lo⟩:=x
 obtain⟨a₂,l,e1,e2,o₂,es,rfl,hd,hw,hp⟩:=p.get hc
 rw[ha]at e1;cases e1
 refine⟨F,ps,?_,N,D,lo⟩
 refine p.map (by simp) fun j c c' a' l' h1 h2 h3 h4 y=> ?_
 by_cases hj:j=i
 .subst hj
  rw[hc]at h1;cases h1
  rw[List.getElem?_set_self (Es.mp hc).1]at h2
  cases h2
  rw[ha]at h3;cases h3
  rw[e2]at h4;cases h4
  exact⟨o₂,es,rfl,hd,hw⟩
 .rw [List.getElem?_set_ne (Ne.symm hj),h1]at h2
  cases h2
  cases c with
  | dictP xs=>
   obtain⟨o',es',rfl,d',w',p'⟩:=y
   refine⟨o',es',rfl,d',w',?_⟩
   have p2:(if a'.1=a.1 then some o else U.pin a'.1)=some o':=p'
   rw[if_neg (I8 (I2 D) h4 e2 hj)]at p2
   exact p2
  | _=>exact y
theorem GF.pin(gf:GF U X.G){a:Addr}{o:Obj}:GF (U.pinAt a o) X.G:=⟨gf.K,gf.T,gf.ext⟩
theorem Cx.pin(cx:Cx U A X Ad n){a:Addr}{o:Obj}:Cx (U.pinAt a o) A X Ad n:=⟨cx.B,cx.hA,cx.hf,cx.hk,cx.hh,cx.hd,cx.hu,cx.gf.pin⟩
theorem FS.swapEx{p q:Addr×Obj}{r:List (Addr×Obj)}(F:AL U (X.withEx (p::q::r)) ρ H h):AL U (X.withEx (q::p::r)) ρ H h:=by
 obtain⟨Fr',ps,pr,N,Dd,lo⟩:=F
 have pm:((X.withEx (p::q::r)).px++ps.flatten).Perm ((X.withEx (q::p::r)).px++ps.flatten):=
  ((List.Perm.swap _ _ _).append_left _).append_right _
 exact⟨Fr',ps,pr,DE N fun q hq=>pm.symm.subset hq,BP pm Dd,lo⟩
theorem Kj{d v y:V}{H H2:MH}{k:Nat}(hv:v=.w k)(e:Dk d v y H=.ok () H2):∃j,d=.ref j/\((∃kvs,H[j]? =some (.dictW kvs)/\kvs.length < 100/\H2=H.set j (.dictW (ET k y kvs)))):=by
 subst hv
 cases d with
 | ref j=>
  refine⟨j,rfl,?_⟩
  cases hj:H[j]? with
  | none=>exact nomatch (Gw hj).symm.trans e
  | some c=>
   have e:=(C7 hj).symm.trans e
   cases c with
   | dictW kvs=>
    by_cases hl:kvs.length < 100
    .cases (congrFun (if_pos hl) H).symm.trans e
     exact⟨kvs,rfl,hl,rfl⟩
    .exact nomatch (congrFun (if_neg hl) H).symm.trans e
   | _=>exact nomatch e
 | _=>exact nomatch e
noncomputable def fD(C:Iv Fn)(vs:Mine.Env)(mv:ME Fn)(d:V)(v:V):M (Option V):=bnd (Ac C mv (vs++[some v])) fun y=>bnd (Dk d v y) fun J=>Mine.ret Option.none
inductive Ue(U U':Un)(xc:Value)(X:Fx)(ρ0:A8)(items:List V)(Ready:MH->Prop)(st:Nat->Obj->Prop)(f:V->M (Option V))(post:M Unit)(I Cd:Addr)(fin:M V)(Qf:Value->Shared->Prop)(s0:Shared)(r0:R V)(n:Nat)(s':Shared):Prop
 | mk (k:_) (ρk:_) (Hk:_) (h:_) (tk:_) (oI:_) (oC:_) (mC:_) (q0:s'={ s0 with heap:=h,toks:=tk}) (q1:n=items.length+1 - k) (q2:k<=items.length) (q3:ρ0 <+:ρk) (q4:AL U' (X.withEx ((Cd,oC)::(I,oI)::X.ex)) ρk Hk h) (q5:st k oI) (q6:(∀g:Heap,g.get? Cd=some oC->g.Ns Cd mC)) (q7:Ready Hk) (q8:Ae (Aq U) U xc X ρk (bnd (still (Bx f post (items.drop k))) (fun J=>fin) Hk) Qf (fun J J=>False) s') (q9:bnd (still (Bx f post (items.drop k))) (fun J=>fin) Hk=r0):Ue U U' xc X ρ0 items Ready st f post I Cd fin Qf s0 r0 n s'
theorem Nt{β:Type}(f:V->M (Option V))(post:M Unit)(v:V)(r:List V)(K:M β):
  bnd (still (Bx f post (v::r))) (fun J=>K) H=bnd (still (f v)) (fun J=>bnd (still post) fun J=>bnd (still (Bx f post r)) fun J=>K) H:=by
 rw[JL]
theorem IW{kx vx iter:Expr}{nm:Str}{px:Pos}{scope:Scope}{pos:Pos}{cenv:PySem.Env}{I Cd:Addr}{d:Nat}{pd:Addr×Addr}{items:List V}{Ready:MH->Prop}{st:Nat->Obj->Prop}{mv:ME Fn}{post:M Unit}{fin:M V}{U':Un}(hU:U'.prog=U.prog/\U'.w=U.w/\U'.sa=U.sa)
  {Qf:Value->Shared->Prop} {R:Result->Shared->Prop} {s0:Shared} {r0:Mine.R V} (hw:∀v ∈ items,∃k,v=.w k) (hpd:ρ0[d]? =some pd)
  (src:Xu U' A I items Ready ρ0 st) (hpost:∀H,(post H=.ok () H/\Ready H)\/post H=.bad)
  (hx:cenv.kindOf nm=some .local) (hp:(cenv.scope.kind== .class||(cenv.scope.kind== .module&&cenv.locals != cenv.globals))=false) (hCd:cenv.locals=Cd)
  (turn:∀(ex':List (Addr×Obj)) ρ v v' oC mC,ρ0 <+:ρ->(∀p ∈ X.ex,p ∈ ex')->Aq U ρ v v'->(Cd,oC) ∈ ex'->(∀g:Heap,g.get? Cd=some oC->g.Ns Cd mC)->mC nm=some v'->
   EO U' (X.withEx ex') ρ cenv (Γ++[nm]) (vs++[some v]))
  (A3:∀ex',SE U' xc C A (X.withEx ex') cenv (Γ++[nm]) (.O Γ.length) kx)
  (hval:∀ex',SE U' xc C A (X.withEx ex') cenv (Γ++[nm]) mv vx)
  (hR:∀ρ' H' h' CG oC mC,ρ0 <+:ρ'->AL U' (X.withEx ((Cd,oC)::X.ex)) ρ' H' h'->Ready H'->(∀g:Heap,g.get? Cd=some oC->g.Ns Cd mC)->r0=fin H'->Ae (Aq U) U xc X ρ' (fin H') Qf (fun J J=>False) { s0 with heap:=h',toks:=CG}->R (.ok .next) { s0 with heap:=h',toks:=CG})
  (Ec:vs.length=Γ.length)
  {m₀:Nat} {s₁:Shared} (h:Ue U U' xc X ρ0 items Ready st (fD C vs mv (.ref d)) post I Cd fin Qf s0 r0 m₀ s₁):
  codeAny (model U.prog U.w) A (.compLoop (.DictComp kx vx [⟨.Name nm px,iter,[],0⟩] scope pos) 0 (.ref I) (.ref pd.1) cenv) R s₁:=by
 obtain⟨hU1,hU2,hU3⟩:=hU
 refine codeAny_compLoop_testsD (fun n s'=>Ue U U' xc X ρ0 items Ready st (fD C vs mv (.ref d)) post I Cd fin Qf s0 r0 n s') ?_ m₀ h
 rintro n s' ⟨k,ρk,Hk,h,tk,oI,oC,mC,rfl,rfl,hk,l0,F,hst,Dn,hrd,hpk,hr0⟩
 have gI:h.get? I=some oI:=F.exGet (p:=(I,oI)) (.tail _ (.head _))
 cases hv:items[k]? with
 | none=>
  have hkl:k=items.length:=Nat.le_antisymm hk (by rw[List.getElem?_eq_none_iff]at hv;exact hv)
  subst hkl
  rw[<-hU1,<-hU2]
  refine src.done (X.withEx ((Cd,oC)::(I,oI)::X.ex)) ρk Hk _ oI _ _ l0 F gI hst hrd fun h₁ he=> ?_
  rw[List.drop_length]at hpk
  have e0:bnd (still (Bx (fD C vs mv (.ref d)) post [])) (fun J=>fin) Hk=fin Hk:=rfl
  rw[e0]at hpk
  rw[List.drop_length,e0]at hr0
  have F2:=F.swapEx.dropEx he
  exact hR ρk Hk h₁ tk oC mC l0 F2 hrd Dn hr0.symm hpk
 | some v=>
  have Ef:k < items.length:=(Es.mp hv).1
  have hdrop:items.drop k=v::items.drop (k+1):=by
   rw[List.drop_eq_getElem_cons Ef]
   rw[List.getElem?_eq_getElem Ef]at hv
   rw[Option.some.inj hv]
  obtain⟨kw,rfl⟩:=hw v (List.mem_of_getElem? hv)
  rw[<-hU1,<-hU2]
  refine src.item k (X.withEx ((Cd,oC)::(I,oI)::X.ex)) ρk Hk _ oI (.w kw) _ _ l0 hv F gI hst hrd fun v' h₁ oI' tk₁ hv' hs₁ ho₁ hst'=> ?_
  rw[hU1,hU2]
  have hv':Aq U ρk (.w kw) v':=by rw[Aq,<-hU3];exact hv'
  have F1:AL U' (X.withEx ([(Cd,oC)]++(I,oI')::X.ex)) ρk Hk h₁:=FS.setEx (X:=X.withEx ((Cd,oC)::(I,oI)::X.ex)) (pre:=[(Cd,oC)]) F rfl hs₁ ho₁
  have gC:h₁.get? Cd=some oC:=F1.exGet (p:=(Cd,oC)) (.head _)
  refine wpAny_assign_Name (wpAny_storeName_local (m:=mC) hx (by rw[hCd];exact Dn h₁ gC) (fun h₂ hn₂ hs₂=> ?_) hp)
  rw[hCd]at hn₂ hs₂
  obtain⟨oC',es',ep',gC',hd',hk',hf'⟩:=hn₂
  have F2:AL U' (X.withEx ((Cd,oC')::(I,oI')::X.ex)) ρk Hk h₂:=FS.setEx (X:=X.withEx ((Cd,oC)::(I,oI')::X.ex)) (pre:=[]) F1 rfl hs₂ gC'
  have hns':∀g:Heap,g.get? Cd=some oC'->g.Ns Cd (fun y=>if y=nm then some v' else mC y):=fun g hg=>⟨oC',es',ep',hg,hd',hk',hf'⟩
  refine I1 ?_
  rw[if_pos rfl,<-hU1,<-hU2]
  have eo:=turn ((Cd,oC')::(I,oI')::X.ex) ρk (.w kw) v' oC' (fun y=>if y=nm then some v' else mC y) l0 (fun p hp=> .tail _ (.tail _ hp)) hv' (.head _) hns' (by simp)
  refine A3 _ ρk Hk _ (vs++[some (.w kw)]) _ _ F2 eo ?_
  have ev:Ac C (.O Γ.length) (vs++[some (.w kw)]) Hk=.ok (.w kw) Hk:=by
   show Co ((vs++[some (V.w kw)])[Γ.length]?).join Hk=_
   rw[<-Ec]
   simp[Co,Mine.ret]
  rw[ev]
  intro ρa kv ha tka la Fa ra
  obtain⟨tkv,rfl⟩:=ra
  refine hval _ ρa Hk { s0 with heap:=ha,toks:=tka} (vs++[some (.w kw)]) _ _ Fa (eo.mono la) ?_
  rw[hdrop,Nt]at hpk hr0
  unfold Ae
  cases hfv:Ac C mv (vs++[some (.w kw)]) Hk with
  | bad=>rw[Ex (by unfold fD bnd;rw[hfv])]at hpk;exact hpk.elim
  | exc e H1=>rw[G6 (by unfold fD bnd;rw[hfv])]at hpk;exact hpk.elim
  | ok y H1=>
   intro ρ1 y' h₃ tk₃ l1 F3 r3
   cases hsv:Dk (.ref d) (.w kw) y H1 with
   | bad=>rw[Ex (by unfold fD bnd;rw[hfv];dsimp only;rw[hsv])]at hpk;exact hpk.elim
   | exc e H2=>rw[G6 (by unfold fD bnd;rw[hfv];dsimp only;rw[hsv])]at hpk;exact hpk.elim
   | ok u H2=>
    obtain⟨j,ej,kvs,hc,hl,rfl⟩:=Kj rfl hsv
    cases ej
    rw[Gk (by unfold fD bnd;rw[hfv];dsimp only;rw[hsv];rfl)]at hpk hr0
    obtain⟨a,o,news,g,e1,lo,⟨o₂,es,e2,hd,vd⟩,N2,hm,up,back⟩:=FS.oneCell (s:={ s0 with heap:=h₃,toks:=tk₃}) F3 hc (fun J J=>by simp)
    cases e2
    have ea:a=pd:=by
     have:=Dh ((l0.trans la).trans l1) hpd
     rw[e1]at this
     exact Option.some.inj this
    subst ea
    obtain⟨pre,post',rfl,hg,a1,b1⟩:=up.split
    have hmem:=N2 (a.1,o) (C9 _ (.head _))
    refine wpAny_dictSet_pairs (s:={ s0 with heap:=h₃,toks:=tk₃}) (knd:=PySem.strKind U'.prog U'.w) (kvs:=es) (strKind_is _ _ _ _) (Heap.dictOf_iff.mpr ⟨o,hmem.1,hd⟩) (fun h' hD hs=> ?_) (by rw[sizeLine_eq,vd.length];exact bK ‹_› (by rfl))
    obtain⟨o',ho',hd'⟩:=Heap.dictOf_iff.mp hD
    have nd:(es.map (·.1)).Nodup:=by obtain⟨xs,ep,_,_,_,_,nd⟩:=hd;exact nd
    have F4:=back (.dictW (ET kw y kvs)) o' h' ⟨o',_,rfl,hd',vd.stored r3 nd⟩ (F3.fr.change hs hmem.2.1 hmem.2.2) (hg o'▸N2.setIn a1 b1 hs ho')
    rcases hpost (H1.set d (.dictW (ET kw y kvs)))with⟨AS,hrd1⟩ | AS
    .rw [Gk AS]at hpk hr0
     exact⟨items.length+1 - (k+1),by exact dK ‹_›,⟨k+1,ρ1,_,h',_,oI',oC',_,rfl,rfl,Ef,(l0.trans la).trans l1,F4,hst',hns',hrd1,Ae.later hpk (la.trans l1) _ _,hr0⟩⟩
    .rw [Ex AS]at hpk
     exact hpk.elim
theorem Gf.keys{sa:Addr}{ρ:A8}:∀{kvs:List (Nat×V)} {es:List (Str×Value)},Gf sa ρ kvs es->es.map (·.1)=kvs.map fun q=>wd q.1
 | [],[],_=>rfl
 | [],_::_,h=>h.elim
 | _::_,[],h=>h.elim
 | p::r,e::es,⟨h1,_,h3⟩=>by rw[List.map_cons,List.map_cons,h1,h3.keys]
inductive IH(U:Un)(xc:Value)(X:Fx)(ρ:A8)(H:MH)(s:Shared)(E:Value->Shared->Prop)(α:Type)(β:Type)(rel:A8->α->β->Prop)(Q:β->Shared->Prop)(v:V)(f:List (Nat×V)->M α):Prop
 | mk (i:_) (xs:_) (q0:v=.ref i) (q1:H[i]? =some (.dictW xs)) (q2:xs.length < 100) (q3:Ae rel U xc X ρ (f xs H) Q E s):IH U xc X ρ H s E α β rel Q v f
theorem UY{α β:Type}{rel:A8->α->β->Prop}{Q:β->Shared->Prop}{v:V}{f:List (Nat×V)->M α}(hp:Ae rel U xc X ρ (bnd (Mine.getD v) f H) Q E s):IH U xc X ρ H s E α β rel Q v f:=
 Bu (P:=fun v=>IH U xc X ρ H s E α β rel Q v f) hp.as fun i c e hp=>by
  cases c with
  | dictW xs=>exact FW hp fun hl hp=>⟨i,_,rfl,e,hl,hp⟩
  | _=>exact hp.elim
theorem Nh{α β:Type}{rel:A8->α->β->Prop}{r:R α}{Q:β->Shared->Prop}{E':Value->Shared->Prop}(hp:Ae rel U xc X ρ r Q E s)(h:∀e H',r≠.exc e H'):Ae rel U xc X ρ r Q E' s:=by
 cases r with
 | ok a H=>exact hp
 | exc e H=>exact absurd rfl (h e H)
 | bad=>exact hp
theorem EO.pin{a:Addr}{o:Obj}(e:EO U X ρ env Γ vs):EO (U.pinAt a o) X ρ env Γ vs:=⟨e.len,e.get⟩
theorem NB{kx vx iter:Expr}{sc:Scope}{x:Str}{px:Pos}{mv mi:ME Fn}(cx:Cx U A X Ad n)(ek:AJ X Ad env ns)(k:ES ns Γ sc x)(hset:E0 iter=true)(hkx:∃p,kx=.Name x p)(Ls:D5 (BW ns sc.names) x=true)
  (h1:SE U xc C A X env Γ mi iter)
  (h2:∀a o X' Ai,Cx (U.pinAt a o) A X' Ad n->AJ X' Ad Ai (BW ns sc.names)->SE (U.pinAt a o) xc C A X' Ai (Γ++[x]) mv vx):
  Tw U xc C A X env Γ (.dcomp mv mi) (Eg sc [⟨.Name x px,iter,[],0⟩] pos (.DictComp kx vx [⟨.Name x px,iter,[],0⟩] sc pos) newDict env):=by
 obtain⟨kp,rfl⟩:=hkx
 intro ρ H s vs use Qf Q E hx eo hp fin
 refine wpAny_comprehension_free (cl:=Bm env.cells sc.names []) rfl (Dc hset) (CF (C8 ek k)) k.kind (fun p hp e=>(k.loc p hp e).2) ?_
 refine h1 ρ H s vs _ E hx eo (hp.bnd (rel1:=Aq U) fun l H1 ρ1 l' h1 Bk he l1 x1 r1 AS=> ?_)
 obtain⟨i,kvs,rfl,hc,Ba,Cb⟩:=UY AS
 obtain⟨a,o,es,e1,lo,ho,hd,hw,Fp⟩:=FS.pinned x1 hc
 obtain⟨p,ep',rfl⟩:=r1
 rw[e1]at ep';cases ep'
 obtain⟨xs,ep,ex,hdat,hkeys,hpairs,hnd⟩:=hd
 refine wpAny_pyIter_dict (s:={ s with heap:=h1,toks:=Bk}) (knd:=PySem.strKind U.prog U.w) (kvs:=es) (ep:=ep) (Dt lo) ⟨o,xs,ho,ex,hdat,hkeys,hpairs,hnd⟩ ?_
 dsimp only
 have hh:A.handled=none:=cx.hh
 have gsz:=JQ (s:={ s with heap:=h1,toks:=Bk}) cx.gf x1
 have F0:=FS.addEx (a:=h1.objs.size) (o:={ cls:= .type "dict_keyiterator",data:= .fields #[.ref a.1,.int 0 0,.int es.length 0,.int ep 0]}) Fp (fun b o e=>Dx _ e) (Heap.get?_push_size _ rfl) (Nat.le_refl _)
 generalize hHI:h1.push { cls:= .type "dict_keyiterator",data:= .fields #[.ref a.1,.int 0 0,.int es.length 0,.int ep 0]}=HI at F0 ⊢
 have szI:h1.objs.size<=HI.objs.size:=by rw[<-hHI,Heap.size_push];exact Nat.le_succ _
 refine wpAny_newObj_type ?_
 have F1:=FS.addEx (a:=HI.objs.size) (o:={ cls:= .type "dict",data:= .dict #[]}) F0 (fun b o e=>Dx _ e) (Heap.get?_push_size _ rfl) (Nat.le_refl _)
 have F2:=FS.adopt (X:=X) (c:= .dictW []) F1 ⟨_,[],rfl,by
  obtain⟨o,ho,hd⟩:=Heap.dictOf_iff.mp (Heap.DictOf.new (knd:=PySem.strKind U.prog U.w) HI)
  rw[Heap.get?_push_size _ rfl]at ho
  cases ho
  exact hd,trivial⟩ (Nat.lt_of_lt_of_le gsz szI)
 have hD:(ρ1++[(HI.objs.size,HI.objs.size)])[(H1.set i (.dictP kvs)).length]? =some (HI.objs.size,HI.objs.size):=by
  rw[<-FS.len Fp];simp
 generalize hHD:HI.push { cls:= .type "dict",dict:=none,data:= .dict #[]}=HD at F2 ⊢
 refine wpAny_newFunctionEnv k.cell (by intro y hy;simp at hy) (fun h₁ hns₁ hsb₁=> ?_) k.kind
 dsimp only at hns₁ hsb₁ ⊢
 have hn₁:=hns₁
 obtain⟨oC,es',ep',gC,hd',hk',hf'⟩:=hns₁
 have keep:∀b o,HD.get? b=some o->h₁.get? b=some o:=fun b o e=>(hsb₁.2 b (Nat.ne_of_lt (Heap.lt_size e))).trans (Dx _ e)
 have F3:=FS.addEx (a:=HD.objs.size) (o:=oC) F2 keep gC (Nat.le_refl _)
 have hnsC:∀g:Heap,g.get? HD.objs.size=some oC->g.Ns HD.objs.size (fun x=>([]:List (Str×Value)).reverse.lookup x):=fun g hg=>⟨oC,es',ep',hg,hd',hk',hf'⟩
 have ek2:=Iz ek k HD.objs.size
 rw[Eu ek]at ek2
 have hset':(D0 (.ref i) (.dictP kvs) H1)=.ok () (H1.set i (.dictP kvs)):=rfl
 have hp3:Ae (Aq U) U xc X ρ1 (bnd (still (Bx (fD C vs mv (.ref (H1.set i (.dictP kvs)).length)) (stays (.ref i) (.dictP kvs)) (kvs.map fun p=> .w p.1))) (fun J=>bnd (D0 (.ref i) (.dictW kvs)) fun J=>Mine.ret (.ref (H1.set i (.dictP kvs)).length)) (H1.set i (.dictP kvs)++[.dictW []])) Qf E { s with heap:=h1,toks:=Bk}:=Cb
 have hp4:Ae (Aq U) U xc X ρ1 (bnd (still (Bx (fD C vs mv (.ref (H1.set i (.dictP kvs)).length)) (stays (.ref i) (.dictP kvs)) (kvs.map fun p=> .w p.1))) (fun J=>bnd (D0 (.ref i) (.dictW kvs)) fun J=>Mine.ret (.ref (H1.set i (.dictP kvs)).length)) (H1.set i (.dictP kvs)++[.dictW []])) Qf (fun J J=>False) { s with heap:=h1,toks:=Bk}:=by
  refine Nh hp3 fun e H' q=> ?_
  simp only [bnd,still,D0,Mine.ret]at q
  cases q2:Bx (fD C vs mv (.ref (H1.set i (.dictP kvs)).length)) (stays (.ref i) (.dictP kvs)) (kvs.map fun p=> .w p.1) (H1.set i (.dictP kvs)++[.dictW []])<;>rw[q2]at q<;>cases q
 have ee:Ac C (.dcomp mv mi) vs H=bnd (still (Bx (fD C vs mv (.ref (H1.set i (.dictP kvs)).length)) (stays (.ref i) (.dictP kvs)) (kvs.map fun p=> .w p.1))) (fun J=>bnd (D0 (.ref i) (.dictW kvs)) fun J=>Mine.ret (.ref (H1.set i (.dictP kvs)).length)) (H1.set i (.dictP kvs)++[.dictW []]):=by
  exact(FI he).trans (MO hc Ba)
 have inv:Ue U (U.pinAt a.1 o) xc X (ρ1++[(HI.objs.size,HI.objs.size)]) (kvs.map fun p=> .w p.1) (fun H=>H[i]? =some (.dictP kvs)) (fun k o=>o.cls=.type "dict_keyiterator"/\o.data=.fields #[.ref a.1,.int k 0,.int es.length 0,.int ep 0]) (fD C vs mv (.ref (H1.set i (.dictP kvs)).length)) (stays (.ref i) (.dictP kvs)) h1.objs.size HD.objs.size
   (bnd (D0 (.ref i) (.dictW kvs)) fun J=>Mine.ret (.ref (H1.set i (.dictP kvs)).length)) Qf s (Ac C (.dcomp mv mi) vs H) ((kvs.map fun p=>V.w p.1).length+1 - 0) { s with heap:=h₁,toks:=Bk+([]:List (Str×Value)).length}:=by
  refine⟨0,ρ1++[(HI.objs.size,HI.objs.size)],H1.set i (.dictP kvs)++[.dictW []],h₁,_,_,oC,_,rfl,rfl,Nat.zero_le _,BE _,F3,⟨rfl,rfl⟩,hnsC,?_,by rw[List.drop_zero];exact Ae.later hp4 (List.prefix_append ..) _ _,by rw[List.drop_zero];exact ee.symm⟩
  .have hi:i < H1.length:=(Es.mp hc).1
   rw[List.getElem?_append_left (by simpa using hi),List.getElem?_set_self hi]
 have loop:∀s₃:Shared,s₃={ s with heap:=h₁,toks:=Bk+([]:List (Str×Value)).length}->
   codeAny (model U.prog U.w) A (.compLoop (.DictComp (.Name x kp) vx [⟨.Name x px,iter,[],0⟩] sc pos) 0 (.ref h1.objs.size) (.ref HI.objs.size) (compEnvC sc (Bm env.cells sc.names []) HD.objs.size env))
    (compPost (model U.prog U.w) A E use Q (.ref HI.objs.size) HD.objs.size) s₃:=by
  rintro s₃ rfl
  refine IW (U:=U) (U':=U.pinAt a.1 o) (xc:=xc) (X:=X) (ρ0:=ρ1++[(HI.objs.size,HI.objs.size)]) (Γ:=Γ) (vs:=vs) (C:=C) (mv:=mv) (Qf:=Qf) (s0:=s) (pd:=(HI.objs.size,HI.objs.size)) ⟨rfl,rfl,rfl⟩ (fun v hv=> ?_) hD
   (Mz (U:=U.pinAt a.1 o) hh (kvs:=kvs) (ep:=ep) (es:=es) (Dh (List.prefix_append ..) e1) (if_pos rfl) ⟨ex,xs,hdat,hkeys,hpairs,hnd⟩ hw.keys hw.length) (fun H=>D3 H)
   (cenv:=compEnvC sc (Bm env.cells sc.names []) HD.objs.size env) (lookup_relabel_local k.it) (by simp[compEnvC,relabel,k.kind]) rfl
   (fun ex' ρ' v v' oC mC l hex hv hm Dn hx=> ?_) (fun ex'=> ?_) (fun ex'=> ?_) (fun ρ' H' h' CG oC mC l F hrd Dn er hp=> ?_) eo.len inv
  .obtain ⟨q,_,rfl⟩:=List.mem_map.mp hv
   exact⟨_,rfl⟩
  .exact (KQ ek k (eo.mono l1) ((List.prefix_append ..).trans l) hex hm Dn hv hx).pin
  .exact QR (ek2.ex ex') (by simp) Ls
  .exact h2 _ _ (X.withEx ex') _ (cx.ex ex').pin (ek2.ex ex')
  .have e1':=Dh ((List.prefix_append ..).trans l) e1
   have F':=FS.unpinned F hrd e1'
   exact fin ρ1 h1 Bk l1 _ _ ρ' (H'.set i (.dictW kvs)) (.ref (H1.set i (.dictP kvs)).length) h' CG oC mC ((List.prefix_append ..).trans l) F' Dn ⟨_,Dh l hD,rfl⟩ er hp
 have gI:h₁.get? h1.objs.size=some _:=FS.exGet F3 (p:=(h1.objs.size,_)) (.tail _ (.head _))
 refine codeAny_compStart_dict (loop _ rfl) ?_
 exact wpAny_pyIter_keyiter (i:=0) (d:=a.1) (n:=es.length) (ep:=ep) ⟨_,gI,rfl,rfl⟩ (loop _ rfl)
theorem Tl{α:Type}{l:List α}(nd:l.Nodup){i j:Nat}{x:α}(hi:l[i]? =some x)(hj:l[j]? =some x):i=j:=by
 obtain⟨h1,h2⟩:=Es.mp hi
 obtain⟨h3,h4⟩:=Es.mp hj
 unfold List.Nodup at nd
 rw[List.pairwise_iff_getElem]at nd
 rcases Nat.lt_trichotomy i j with h | h | h
 .exact absurd (h2.trans h4.symm) (nd i j h1 h3 h)
 .exact h
 .exact absurd (h4.trans h2.symm) (nd j i h3 h1 h)
structure CH(X X':Fx):Prop where
 G:X'.G=X.G
 L:X'.L=X.L
 base:X'.base=X.base
 l:X'.l=X.l
 ex:X'.ex=X.ex
theorem CH.refl{X:Fx}:CH X X:=⟨rfl,rfl,rfl,rfl,rfl⟩
theorem CH.trans{X Y Z:Fx}(a:CH X Y)(b:CH Y Z):CH X Z:=⟨b.G.trans a.G,b.L.trans a.L,b.base.trans a.base,b.l.trans a.l,b.ex.trans a.ex⟩
structure SX(U:Un)(A:Around)(X:Fx)(Ad env:PySem.Env)(n:Nat)(ns:Dm):Prop where
 cx:Cx U A X Ad n
 ek:AJ X Ad env ns
 loc:env.locals=X.L
 cel:∀y c,env.cells.lookup y=some c->∃o v0,(c,o) ∈ X.own/\o.data=.cell v0
 inj:∀y z c,env.cells.lookup y=some c->env.cells.lookup z=some c->y=z
 og:∀e,X.l=[e]->X.base=X.G
theorem Cx.same(cx:Cx U A X Ad n)(m:CH X X'):Cx U A X' Ad n:=by
 obtain⟨G,L,base,l,ex⟩:=m
 refine⟨?_,?_,?_,cx.hk,cx.hh,cx.hd,cx.hu,?_⟩
 .rw [G,base,l];exact cx.B
 .rw [l];exact cx.hA
 .rw [L];exact cx.hf
 .rw [G];exact cx.gf
theorem AJ.same(ek:AJ X Ad env ns)(m:CH X X'):AJ X' Ad env ns:=⟨ek.names,ek.kind,ek.glo,ek.blt,by rw[m.L];exact ek.frm,ek.hc⟩
noncomputable def Bw(U:Un)(xc:Value)(A:Around)(Ad env:PySem.Env)(n:Nat)(ns:Dm)(Γ:List Str)(X:Fx)(ρ:A8)(r:R (Mine.Env×Option V))(Q:Flow->Shared->Prop)(E:Value->Shared->Prop)(s:Shared):Prop:=match r with
 | .ok (vs',fl) H'=>∀X' ρ' h' CG,CH X X'->SX U A X' Ad env n ns->ρ <+:ρ'->AL U X' ρ' H' h'->EO U X' ρ' env Γ vs'->(match fl with
   | none=>Q .next { s with heap:=h',toks:=CG}
   | some v=>∀v',Aq U ρ' v v'->Q (.ret v') { s with heap:=h',toks:=CG})
 | .exc msg H'=>∀X' ρ' e h' CG,CH X X'->ρ <+:ρ'->Sv U xc X' msg ρ' H' e h'->E (.ref e) { s with heap:=h',toks:=CG}
 | .bad=>False
theorem Bw.later{r:R (Mine.Env×Option V)}{Q:Flow->Shared->Prop}(hp:Bw U xc A Ad env n ns Γ X ρ r Q E s)(m:CH X X')(l:ρ <+:ρ')(h:Heap)(tk:Nat):Bw U xc A Ad env n ns Γ X' ρ' r Q E { s with heap:=h,toks:=tk}:=by
 cases r with
 | ok a H=>exact fun X₂ ρ₂ h' CG m' sx' l'=>hp X₂ ρ₂ h' CG (m.trans m') sx' (l.trans l')
 | exc e H=>exact fun X₂ ρ₂ v' h' CG m' l'=>hp X₂ ρ₂ v' h' CG (m.trans m') (l.trans l')
 | bad=>exact hp
theorem Bw.bnd{α β:Type}{rel:A8->α->β->Prop}{m:M α}{f:α->M (Mine.Env×Option V)}{Q:Flow->Shared->Prop}{Q1:β->Shared->Prop}
  (hp:Bw U xc A Ad env n ns Γ X ρ (Mine.bnd m f H) Q E s)
  (k:∀a H1 ρ1 a' h1 Bk,m H=.ok a H1->ρ <+:ρ1->AL U X ρ1 H1 h1->rel ρ1 a a'->Bw U xc A Ad env n ns Γ X ρ1 (f a H1) Q E { s with heap:=h1,toks:=Bk}->Q1 a' { s with heap:=h1,toks:=Bk}):
  Ae rel U xc X ρ (m H) Q1 E s:=by
 unfold Mine.bnd at hp
 unfold Ae
 cases e:m H with
 | ok a H1=>
  rw[e]at hp
  intro ρ1 a' h1 Bk l1 F1 r1
  exact k a H1 ρ1 a' h1 Bk e l1 F1 r1 (Bw.later (r:=f a H1) hp CH.refl l1 _ _)
 | exc msg H1=>
  rw[e]at hp
  exact fun ρ1 e' h1 Bk l1 x=>hp X ρ1 e' h1 Bk CH.refl l1 x
 | bad=>rw[e]at hp;exact hp
noncomputable def SS(U:Un)(xc:Value)(C:Iv Fn)(A:Around)(Ad env:PySem.Env)(n:Nat)(ns:Dm)(Γ:List Str)(ms:MS Fn)(st:Stmt):Prop:=
 ∀X ρ H s vs Q E,SX U A X Ad env n ns->AL U X ρ H s.heap->EO U X ρ env Γ vs->Bw U xc A Ad env n ns Γ X ρ (E6 C ms vs H) Q E s->wpAny (model U.prog U.w) A (exec st env) Q E s
noncomputable def NS(U:Un)(xc:Value)(C:Iv Fn)(A:Around)(Ad env:PySem.Env)(n:Nat)(ns:Dm)(Γ:List Str)(ms:List (MS Fn))(st:List Stmt):Prop:=
 ∀X ρ H s vs Q E,SX U A X Ad env n ns->AL U X ρ H s.heap->EO U X ρ env Γ vs->Bw U xc A Ad env n ns Γ X ρ (Ak C ms vs H) Q E s->wpAny (model U.prog U.w) A (execs st env) Q E s
noncomputable def MR(U:Un)(xc:Value)(C:Iv Fn)(A:Around)(Ad env:PySem.Env)(n:Nat)(ns:Dm)(Γ:List Str)(m:ME Fn)(e:Expr):Prop:=
 ∀X,SX U A X Ad env n ns->SE U xc C A X env Γ m e
noncomputable def fA(U:Un)(xc:Value)(C:Iv Fn)(A:Around)(Ad env:PySem.Env)(n:Nat)(ns:Dm)(Γ:List Str)(m:ME Fn)(e:Expr):Prop:=
 ∀X,SX U A X Ad env n ns->ST U xc C A X env Γ m e
theorem VD:NS U xc C A Ad env n ns Γ [] []:=by
 intro X ρ H s vs Q E sx x eo hp
 exact wpAny_execs_nil (hp X ρ s.heap s.toks CH.refl sx (BE _) x eo)
theorem Rd{ms:MS Fn}{mr:List (MS Fn)}{st:Stmt}{sr:List Stmt}(h:SS U xc C A Ad env n ns Γ ms st)(h2:NS U xc C A Ad env n ns Γ mr sr):NS U xc C A Ad env n ns Γ (ms::mr) (st::sr):=by
 intro X ρ H s vs Q E sx x eo hp
 refine wpAny_execs_cons (h X ρ H s vs _ E sx x eo ?_)
 change Bw _ _ _ _ _ _ _ _ _ _ (bnd _ _ _) _ _ _ at hp
 unfold Mine.bnd at hp
 cases e:E6 C ms vs H with
 | bad=>rw[e]at hp;exact hp
 | exc m H1=>rw[e]at hp;exact hp
 | ok p H1=>
  rw[e]at hp
  obtain⟨vs1,fl⟩:=p
  dsimp only at hp
  intro X1 ρ1 h1 Bk m1 sx1 l1 F1 eo1
  cases fl with
  | none=>
   dsimp only at hp ⊢
   exact h2 X1 ρ1 H1 _ vs1 Q E sx1 F1 eo1 (Bw.later hp m1 l1 _ _)
  | some v=>
   dsimp only at hp ⊢
   exact fun v' r=>hp X1 ρ1 h1 Bk m1 sx1 l1 F1 eo1 v' r
theorem FS.setOwn{a:Addr}{o o':Obj}{pre post:List (Addr×Obj)}(x:AL U X ρ H h)(e:X.own=pre++(a,o)::post)(hs:Heap.SameBut a h h')(ho:h'.get? a=some o'):AL U { X with own:=pre++(a,o')::post} ρ H h':=by
 obtain⟨F,ps,p,N,D,lo⟩:=x
 have w:X.px++ps.flatten=pre++(a,o)::(post++X.ex++ps.flatten):=by simp[Fx.px,e]
 rw[w]at N D
 obtain⟨h1,h2⟩:(∀q ∈ pre,q.1≠a)/\∀q ∈ post++X.ex++ps.flatten,q.1≠a:=by
  unfold BC at D
  rw[List.map_append,List.map_cons]at D
  have d2:=(List.nodup_append.mp D)
  refine⟨fun q hq=>d2.2.2 q.1 (List.mem_map_of_mem hq) a (.head _),fun q hq e=> ?_⟩
  have:=(List.nodup_cons.mp d2.2.1).1
  exact this (e▸List.mem_map_of_mem (f:=(·.1)) hq)
 have z:=N (a,o) (C9 _ (.head _))
 refine⟨F.change hs z.2.1 z.2.2,ps,p,?_,?_,lo⟩
 .have:=N.setAt h1 h2 hs ho
  simpa [Fx.px]using this
 .have:=Hu (o':=o') D
  simpa [Fx.px]using this
noncomputable def A1(ns:Dm)(x:Str):Bool:=ns.lookup x==some .local||ns.lookup x==some .cell
theorem Fl{M:Model}{ex1:List (Addr×Obj)}{i:Nat}{nm:Str}{v:V}{v':Value}{Q:Unit->Shared->Prop}(sx:SX U A X Ad env n ns)(x:AL U (X.withEx ex1) ρ H s.heap)(eo:EO U X ρ env Γ vs)
  (hi:Γ[i]? =some nm) (nd:Γ.Nodup) (hk:A1 ns nm=true) (hv:Aq U ρ v v')
  (k:∀X' h' CG,CH X X'->SX U A X' Ad env n ns->AL U (X'.withEx ex1) ρ H h'->EO U X' ρ env Γ (vs.set i (some v))->Q () { s with heap:=h',toks:=CG}):
  wpAny M A (storeName env nm v') Q E s:=by
 have ek:=sx.ek
 have other:∀(j:Nat) (y:Str),Γ[j]? =some y->y=nm->j=i:=fun j y hj e=>by
  subst e
  exact Tl nd hj hi
 have eo':∀X':Fx,GB X' env nm v'->(∀y z,y≠nm->GB X env y z->GB X' env y z)->EO U X' ρ env Γ (vs.set i (some v)):=fun X' l1 l2=>by
  refine⟨by rw[List.length_set];exact eo.len,fun j w y hw hy hvis=> ?_⟩
  by_cases hj:j=i
  .subst hj
   rw[hi]at hy;cases hy
   have Ef:j < vs.length:=by rw[eo.len];exact(Es.mp hi).1
   rw[List.getElem?_set_self Ef]at hw
   cases hw
   exact⟨v',hv,l1⟩
  .rw [List.getElem?_set_ne (Ne.symm hj)]at hw
   obtain⟨z,hz,lz⟩:=eo.get j w y hw hy hvis
   exact⟨z,hz,l2 y z (fun e=>hj (other j y hy e)) lz⟩
 have hLpx:∀o,(X.L,o) ∉ X.own:=fun o hm=>by
  obtain⟨F,ps,p,N,D,lo⟩:=x
  exact(N (X.L,o) (B1 _ (B1 _ hm))).2.1 rfl
 unfold A1 at hk
 rw[Bool.or_eq_true]at hk
 rcases hk with hk | hk
 .have hx:env.kindOf nm=some .local:=by unfold PySem.Env.kindOf;rw[ek.names];exact beq_iff_eq.mp hk
  have Dn:=x.fr.ns
  rw[show(X.withEx ex1).L=env.locals from sx.loc.symm]at Dn
  refine wpAny_storeName_local hx Dn (fun h' hn hs=> ?_) (by rw[ek.kind];rfl)
  rw[show env.locals=X.L from sx.loc]at hn hs
  let X':Fx:={ X with m:=fun y=>if y=nm then some v' else X.m y}
  have same:CH X X':=⟨rfl,rfl,rfl,rfl,rfl⟩
  refine k X' h' _ same ⟨sx.cx.same same,ek.same same,sx.loc,sx.cel,sx.inj,sx.og⟩ ?_ (eo' X' (.inl ⟨hx,sx.loc,by simp[X']⟩) fun y z hy l=> ?_)
  .obtain ⟨F,ps,p,N,D,lo⟩:=x
   exact⟨F.set hn hs,ps,p,N.set hs,D,lo⟩
  .rcases l with⟨a,b,c⟩ | l | l
   .exact .inl ⟨a,b,by simp[X',hy,c]⟩
   .exact .inr (.inl l)
   .exact .inr (.inr l)
 .have hx:env.kindOf nm=some .cell:=by unfold PySem.Env.kindOf;rw[ek.names];exact beq_iff_eq.mp hk
  obtain⟨c,hc⟩:=Option.isSome_iff_exists.mp (ek.hc nm (.inl hx))
  obtain⟨o,v0,hmem,hd⟩:=sx.cel nm c hc
  obtain⟨pre,post,e⟩:=List.append_of_mem hmem
  have hget:s.heap.get? c=some o:=by
   obtain⟨F,ps,p,N,D,lo⟩:=x
   exact(N (c,o) (B1 _ (B1 _ hmem))).1
  refine wpAny_storeName_cell ek.kind hx hc ⟨o,hget,hd⟩ fun h' hv' hs=> ?_
  obtain⟨o',ho',hd'⟩:=hv'
  let X':Fx:={ X with own:=pre++(c,o')::post}
  have same:CH X X':=⟨rfl,rfl,rfl,rfl,rfl⟩
  have up:∀q:Addr×Obj,q.1≠c->q ∈ X.own->q ∈ X'.own:=fun q hq hm=>by
   rw[e]at hm
   show q ∈ pre++(c,o')::post
   rcases List.mem_append.mp hm with hm | hm
   .exact B1 _ hm
   .rcases List.mem_cons.mp hm with rfl | hm
    .exact absurd rfl hq
    .exact C9 _ (.tail _ hm)
  have upx:∀q:Addr×Obj,q.1≠c->q ∈ X.px->q ∈ X'.px:=fun q hq hm=>by
   rcases List.mem_append.mp hm with hm | hm
   .exact B1 _ (up q hq hm)
   .exact C9 _ hm
  refine k X' h' _ same ⟨sx.cx.same same,ek.same same,sx.loc,fun y c' hy=> ?_,sx.inj,sx.og⟩ (FS.setOwn (X:=X.withEx ex1) x e hs ho') (eo' X' (.inr (.inl ⟨.inl hx,c,o',hc,?_,hd'⟩)) fun y z hy l=> ?_)
  .obtain ⟨o2,v2,m2,d2⟩:=sx.cel y c' hy
   by_cases hcc:c'=c
   .subst hcc
    exact⟨o',_,C9 _ (.head _),hd'⟩
   .exact ⟨o2,v2,up (c',o2) hcc m2,d2⟩
  .exact B1 _ (C9 _ (.head _))
  .rcases l with l | ⟨a,c',o2,b1,b2,b3⟩ | ⟨a,o2,m2,b1,b2⟩
   .exact .inl l
   .refine .inr (.inl ⟨a,c',o2,b1,upx (c',o2) (fun q=>hy ?_) b2,b3⟩)
    have q':c'=c:=q
    subst q'
    exact sx.inj y nm c' b1 hc
   .refine .inr (.inr ⟨a,o2,m2,upx (env.locals,o2) (fun q=> ?_) b1,b2⟩)
    have q':env.locals=c:=q
    rw[sx.loc]at q'
    exact hLpx o (by rw[q'];exact hmem)
theorem K1{M:Model}{A:Around}{s:Shared}{E:Value->Shared->Prop}{a b:Value}{Q:Value->Shared->Prop}(ha:s.TypeIs a "list")(hb:s.TypeIs b "list")
  (hc:wpAny M A (call (.builtin "list.__iadd__") [a,b]) Q E s):wpAny M A (inplaceOp .Add a b) Q E s:=by
 unfold inplaceOp
 refine wpAny_holding ?_
 have lk:=PySem.F.slot_list_iadd.lookup
 have hs:isSeqSlot (some (.builtin "list.__iadd__"))=true:=by decide+kernel
 have hfi:fillsInplaceSlot (.type "list") "add" (Operator.Add== .Add)=pure false:=by
  unfold fillsInplaceSlot
  show(typeLookup (.type "list") (dunderI "add") >>= fun fi=>pure (fi.isSome&& !isSeqSlot fi))=pure false
  rw[lk]
  show(pure (true&& !isSeqSlot (some (.builtin "list.__iadd__"))):Sem Bool)=pure false
  rw[hs];rfl
 refine As (wpAny_typeOf ha (As (wpAny_of_eq hfi ?_)))
 show wpAny M A (if false=true then _ else _) Q E s
 rw[if_neg Bool.false_ne_true]
 refine As (wpAny_binaryOp1_none (nm:="add") ha hb noFill_list_add ?_)
 refine As (wpAny_of_eq (PySem.seqSlot_of lk hs) ?_)
 exact As (wpAny_rule hc)
noncomputable def DO(e:Expr):Bool:= @Expr.casesOn (fun J=>Bool) e (fun J J J=>true) (fun J J J=>true) (fun J J J J=>true) (fun J J J=>true) (fun J J J J=>true) (fun J J J J=>true) (fun J J J=>true) (fun J J J=>true) (fun J J J J=>false) (fun J J J J=>false) (fun J J J J J=>false) (fun J J J J=>true) (fun J J=>true) (fun J J=>true) (fun J J=>true) (fun J J J J=>true) (fun J J J J=>true) (fun J J J J=>true) (fun J J=>true) (fun J J J=>true) (fun J J J=>true) (fun J J J=>true) (fun J J=>true) (fun J J=>true) (fun J J=>true) (fun J J J=>true) (fun J J J J=>true)
theorem Gl{e:Expr}{t:Option Expr}{l:Nat}{env:PySem.Env}(h:DO e=true):swapsWith e t l env=pure false:=by
 refine Eq.symm (XA h ?_);clear h
 cases e<;>first | exact rfl | exact True.intro
theorem YI{m:ME Fn}{e:Expr}{i:Nat}{nm:Str}{px:Pos}(hc:DO e=true)(hi:Γ[i]? =some nm)(nd:Γ.Nodup)(hk:A1 ns nm=true)(h:MR U xc C A Ad env n ns Γ m e):
  SS U xc C A Ad env n ns Γ (.asg i m) (.Assign [.Name nm px] e pos):=by
 intro X ρ H s vs Q E sx x eo hp
 refine wpAny_Assign_Name (h X sx ρ H s vs _ E x eo (hp.bnd (rel:=Aq U) fun v H1 ρ1 v' h1 Bk J l1 x1 r1 AS=> ?_)) (Gl hc)
 refine Fl (ex1:=X.ex) sx x1 (eo.mono l1) hi nd hk r1 fun X' h' CG sm sx' x' eo'=> ?_
 have ex':X'.withEx X.ex=X':=by rw[<-sm.ex]
 rw[ex']at x'
 exact AS X' ρ1 h' CG sm sx' (BE _) x' eo'
theorem T3(uf:UF U){m o:ME Fn}{e eo':Expr}{a:Nat}{p2:Pos}(hc:DO e=true)(ha:a ∈ CV)(h:MR U xc C A Ad env n ns Γ m e)(h2:MR U xc C A Ad env n ns Γ o eo'):
  SS U xc C A Ad env n ns Γ (.setA o a m) (.Assign [.Attribute eo' (wd a) p2] e pos):=by
 intro X ρ H s vs Q E sx x eo hp
 refine plainObj_wpAny_Assign_Attribute (h X sx ρ H s vs _ E x eo (hp.bnd (rel:=Aq U) fun v H1 ρ1 v' h1 Bk J l1 x1 r1 AS=> ?_)) (Gl hc)
 refine h2 X sx ρ1 H1 _ vs _ E x1 (eo.mono l1) (AS.bnd (rel:=Aq U) fun w H2 ρ2 w' h2 tk2 J l2 x2 r2 Cb=> ?_)
 refine Mt (xc:=xc) uf sx.cx x2 ha r2 (r1.mono l2) (Cb.bnd (rel:=fun J J J=>True) fun u H3 ρ3 u' h3 tk3 J l3 x3 J hp3=> ?_)
 exact hp3 X ρ3 h3 tk3 .refl sx (BE _) x3 (((eo.mono l1).mono l2).mono l3)
theorem T1{m o k:ME Fn}{e eo' ek:Expr}{p2:Pos}(hc:DO e=true)(h:MR U xc C A Ad env n ns Γ m e)(h2:MR U xc C A Ad env n ns Γ o eo')(h3:MR U xc C A Ad env n ns Γ k ek):
  SS U xc C A Ad env n ns Γ (.setI o k m) (.Assign [.Subscript eo' ek p2] e pos):=by
 intro X ρ H s vs Q E sx x eo hp
 refine wpAny_Assign_Subscript (h X sx ρ H s vs _ E x eo (hp.bnd (rel:=Aq U) fun v H1 ρ1 v' h1 Bk J l1 x1 r1 AS=> ?_)) (Gl hc)
 refine h2 X sx ρ1 H1 _ vs _ E x1 (eo.mono l1) (AS.bnd (rel:=Aq U) fun w H2 ρ2 w' h2 tk2 J l2 x2 r2 Cb=> ?_)
 refine h3 X sx ρ2 H2 _ vs _ E x2 ((eo.mono l1).mono l2) (Cb.bnd (rel:=Aq U) fun z H3 ρ3 z' h3 tk3 J l3 x3 r3 hp3=> ?_)
 refine LU (xc:=xc) x3 (r2.mono l3) r3 ((r1.mono l2).mono l3) (hp3.bnd (rel:=fun J J J=>True) fun u H4 ρ4 u' h4 tk4 J l4 x4 J hp4=> ?_)
 exact hp4 X ρ4 h4 tk4 .refl sx (BE _) x4 ((((eo.mono l1).mono l2).mono l3).mono l4)
theorem ZR{m:ME Fn}{e:Expr}(hc:DO e=true)(h:MR U xc C A Ad env n ns Γ m e):
  SS U xc C A Ad env n ns Γ (.ex m) (.Expr e pos):=by
 intro X ρ H s vs Q E sx x eo hp
 have hi:interactive env=false:=by
  unfold interactive
  rw[sx.ek.kind];rfl
 refine wpAny_Expr_any (h X sx ρ H s vs _ E x eo (hp.bnd (rel:=Aq U) fun v H1 ρ1 v' h1 Bk J l1 x1 r1 AS=> ?_)) hi (Gl hc)
 exact AS X ρ1 h1 Bk .refl sx (BE _) x1 (eo.mono l1)
theorem W9{m:ME Fn}{e:Expr}(h:MR U xc C A Ad env n ns Γ m e):
  SS U xc C A Ad env n ns Γ (.ret m) (.Return (some e) pos):=by
 intro X ρ H s vs Q E sx x eo hp
 refine wpAny_Return_some (h X sx ρ H s vs _ E x eo (hp.bnd (rel:=Aq U) fun v H1 ρ1 v' h1 Bk J l1 x1 r1 AS=> ?_))
 exact AS X ρ1 h1 Bk .refl sx (BE _) x1 (eo.mono l1) v' r1
theorem Vj:SS U xc C A Ad env n ns Γ .ret0 (.Return none pos):=by
 intro X ρ H s vs Q E sx x eo hp
 exact wpAny_Return_none (hp X ρ s.heap s.toks .refl sx (BE _) x eo .none rfl)
theorem X4{c:ME Fn}{t e:List (MS Fn)}{ec:Expr}{bt be:List Stmt}(h:fA U xc C A Ad env n ns Γ c ec)(h2:NS U xc C A Ad env n ns Γ t bt)(h3:NS U xc C A Ad env n ns Γ e be):
  SS U xc C A Ad env n ns Γ (.ifs c t e) (.If ec bt be pos):=by
 intro X ρ H s vs Q E sx x eo hp
 have e0:bnd (Ac C c vs) (fun x=>bnd (AG x) fun b=>if b=true then Ak C t vs else Ak C e vs) H=bnd (bnd (Ac C c vs) AG) (fun b=>if b=true then Ak C t vs else Ak C e vs) H:=by
  simp only [bnd]
  cases Ac C c vs H<;>rfl
 change Bw _ _ _ _ _ _ _ _ _ _ (bnd _ _ _) _ _ _ at hp
 rw[e0]at hp
 refine wpAny_If (h X sx ρ H s vs _ E x eo (hp.bnd (rel:=WW) fun u H1 ρ1 v' h1 Bk J l1 x1 r1 AS=> ?_))
 cases(r1)
 cases u
 .exact h3 X ρ1 H1 _ vs Q E sx x1 (eo.mono l1) AS
 .exact h2 X ρ1 H1 _ vs Q E sx x1 (eo.mono l1) AS
theorem EL(G:Str×Pos->Value->Sem Unit)(hG:∀p v Q E s,wpAny (model U.prog U.w) A (storeName env p.1 v) Q E s->wpAny (model U.prog U.w) A (G p v) Q E s):∀(is:List Nat) (tg:List (Str×Pos)) (xs:List V) (ys:List Value) (X:Fx) (vs vs':Mine.Env) (s:Shared) (Q:Unit->Shared->Prop),SX U A X Ad env n ns->AL U X ρ H s.heap->EO U X ρ env Γ vs->C1 U.sa ρ xs ys->
  tg.length=is.length->(∀(j i:Nat) (p:Str×Pos),is[j]? =some i->tg[j]? =some p->Γ[i]? =some p.1/\A1 ns p.1=true)->Γ.Nodup->En is xs vs=some vs'->
  (∀X' h' CG,CH X X'->SX U A X' Ad env n ns->AL U X' ρ H h'->EO U X' ρ env Γ vs'->Q () { s with heap:=h',toks:=CG})->wpAny (model U.prog U.w) A (assignInOrder (tg.map G) ys) Q E s
 | [],tg,xs,ys,X,vs,vs',s,Q,sx,x,eo,hv,hn,hi,nd,e,k=>by
  cases tg with
  | cons _ _=>cases hn
  | nil=>
   cases xs with
   | cons _ _=>cases e
   | nil=>
    cases ys with
    | cons _ _=>exact hv.elim
    | nil=>
     cases e
     exact BH (k X s.heap s.toks .refl sx x eo)
 | i::is,tg,xs,ys,X,vs,vs',s,Q,sx,x,eo,hv,hn,hi,nd,e,k=>by
  cases tg with
  | nil=>cases hn
  | cons p tg=>
   cases xs with
   | nil=>cases e
   | cons v xs=>
    cases ys with
    | nil=>exact hv.elim
    | cons y ys=>
     obtain⟨h1,h2⟩:=hi 0 i p rfl rfl
     show wpAny _ _ (do holding ys (G p y);assignInOrder (tg.map G) ys) _ _ _
     refine As (wpAny_holding (hG p y _ _ _ (Fl (ex1:=X.ex) sx x eo h1 nd h2 hv.1 fun X' h' CG sm sx' x' eo'=> ?_)))
     have ex':X'.withEx X.ex=X':=by rw[<-sm.ex]
     rw[ex']at x'
     refine EL G hG is tg xs ys X' _ vs' _ Q sx' x' eo' hv.2 (by simpa using hn) (fun j i p a b=>hi (j+1) i p (by simpa using a) (by simpa using b)) nd e fun X₂ h₂ tk₂ sm₂ sx₂ x₂ eo₂=> ?_
     exact k X₂ h₂ tk₂ (sm.trans sm₂) sx₂ x₂ eo₂
theorem CT{env:PySem.Env}:∀tg:List (Str×Pos),assignEach (tg.map fun p=> .Name p.1 p.2) env=tg.map fun p=>(false,assign (.Name p.1 p.2) env)
 | []=>rfl
 | p::r=>by
  rw[List.map_cons,List.map_cons,<-CT r]
  rfl
theorem E5{env:PySem.Env}:∀tg:List (Str×Pos),(tg.map fun p=>(false,assign (.Name p.1 p.2) env)).findIdx? (·.1)=none
 | []=>rfl
 | p::r=>by
  rw[List.map_cons,List.findIdx?_cons]
  simp[E5 r]
noncomputable def N6(e:Expr):Bool:= @Expr.casesOn (fun J=>Bool) e (fun J J J=>true) (fun J J J=>true) (fun J J J J=>true) (fun J J J=>true) (fun J J J J=>true) (fun J J J J=>true) (fun J J J=>true) (fun J J J=>true) (fun J J J J=>false) (fun J J J J=>false) (fun J J J J J=>false) (fun J J J J=>true) (fun J J=>true) (fun J J=>true) (fun J J=>true) (fun J J J J=>true) (fun J J J J=>true) (fun J J J J=>true) (fun J J=>true) (fun J J J=>true) (fun J J J=>true) (fun J J J=>true) (fun J J=>true) (fun J J=>true) (fun J J=>true) (fun J J J=>false) (fun J J J J=>true)
theorem Ix{α:Type}{o:Option α}{f:α->M (Mine.Env×Option V)}{Q:Flow->Shared->Prop}(hp:Bw U xc A Ad env n ns Γ X ρ (bnd (Co o) f H) Q E s):∃a,o=some a/\Bw U xc A Ad env n ns Γ X ρ (f a H) Q E s:=by
 cases o with
 | none=>exact hp.elim
 | some a=>exact⟨a,rfl,hp⟩
theorem Kr{v:V}{f:Af->M (Mine.Env×Option V)}{Q:Flow->Shared->Prop}(hp:Bw U xc A Ad env n ns Γ X ρ (bnd (B6 v) f H) Q E s):∃i c,v=.ref i/\H[i]? =some c/\Bw U xc A Ad env n ns Γ X ρ (f c H) Q E s:=by
 rcases Ua (v:=v) (f:=f) (H:=H)with e | ⟨a,c,h1,h2,e⟩
 .rw [e]at hp;exact hp.elim
 .rw [e]at hp;exact⟨a,c,h1,h2,hp⟩
theorem Bw.nb{C:Prop}{r r':R (Mine.Env×Option V)}{Q:Flow->Shared->Prop}(hp:Bw U xc A Ad env n ns Γ X ρ r Q E s)(h:r=.bad\/(C/\r=r')):C/\Bw U xc A Ad env n ns Γ X ρ r' Q E s:=by
 rcases h with e | ⟨c,e⟩
 .rw [e]at hp;exact hp.elim
 .exact ⟨c,e▸hp⟩
set_option tactic.hygienic true in
theorem TX{m:ME Fn}{e:Expr}{is:List Nat}{tg:List (Str×Pos)}{k:Nat}{tpos:Pos}(hc:N6 e=true)(hn:tg.length=is.length)
  (hi:∀(j i:Nat) (p:Str×Pos),is[j]? =some i->tg[j]? =some p->Γ[i]? =some p.1/\A1 ns p.1=true) (nd:Γ.Nodup) (h:MR U xc C A Ad env n ns Γ m e):
  SS U xc C A Ad env n ns Γ (.asgT is m) (.Assign [.Tuple (tg.map fun p=> .Name p.1 p.2) k tpos] e pos):=by
 intro X ρ H s vs Q E sx x eo hp
 refine Assign_Tuple (h X sx ρ H s vs _ E x eo (hp.bnd (rel:=Aq U) fun v H1 ρ1 v' h1 Bk _ l1 x1 r1 AS=> ?_)) (by cases e<;>first | rfl | (cases hc;done)) (by cases e<;>first | rfl | (cases hc;done))
 obtain⟨i,c,rfl,hcell,Cb⟩:=Kr AS
 cases c<;>first | exact Cb.elim | skip
 rename_i xs
 obtain⟨vs',hset,hp3⟩:=Ix Cb
 obtain⟨a,e1,lo,ws,il,vv⟩:=FS.at (s:={ s with heap:=h1,toks:=Bk}) x1 hcell
 obtain⟨p,ep,rfl⟩:=r1
 rw[e1]at ep;cases ep
 have Ba:xs.length=is.length:=by
  clear hp AS Cb hp3 vv il hcell hi hn
  revert hset
  generalize vs=vs0
  induction is generalizing xs vs0 with
  | nil=>intro q;cases xs<;>first | rfl | cases q
  | cons i is ih=>intro q;cases xs with
   | nil=>cases q
   | cons v xs=>exact congrArg (·+1) (ih _ _ q)
 refine assign_Tuple_tuple (s:={ s with heap:=h1,toks:=Bk}) sx.cx.hh il (by rw[CT,List.length_map,hn,List.size_toArray,vv.length,Ba]) (by rw[CT];exact E5 tg) fun h2 he=> ?_
 have x2:AL U X ρ1 H1 h2:=by
  have hs:∀b o,h1.get? b=some o->h2.get? b=some o:=fun b o g=>he b o (Nat.ne_of_lt (Heap.lt_size g)) g
  exact x1.keeps hs
 rw[CT,List.map_map]
 refine EL (fun p=>assign (.Name p.1 p.2) env) (fun p v Q E s hq=>PySem.wpAny_assign_Name hq) is tg xs ws X vs vs' _ _ sx x2 (eo.mono l1) vv hn hi nd hset fun X' h' CG sm sx' x' eo'=> ?_
 exact hp3 X' ρ1 h' CG sm sx' (BE _) x' eo'
theorem Zh{α:Type}{c:Bool}{a b r:α}(h:c=false)(e:b=r):(if c=true then a else b)=r:=by subst h;exact e
theorem YV{v:Expr}(h:Ar v=true):swappedStores.match_5 (fun J=>Bool) v (fun J J=>true) (fun J=>false)=false:=by
 refine Eq.symm (XA h ?_);clear h
 cases v<;>first | exact rfl | exact True.intro
theorem bor{a b:Bool}(h:a=false)(g:b=false):(a||b)=false:=by subst h;exact g
theorem Y4{a b:Str}(h:a≠b):[a,b].eraseDups=[a,b]:=by simp[List.eraseDups_cons,beq_eq_false_iff_ne.mpr (Ne.symm h)]
theorem Q4{a b:Str}{pa pb tpos p2:Pos}{k k2:Nat}{v1 v2:Expr}(ek:AJ X Ad env ns)(h1:Ar v1=true)(h2:Ar v2=true)(la:ns.lookup a=some .local)(lb:ns.lookup b=some .local)(hl:(pb.line==pa.line)=true)(hab:a≠b)
  (hf:[v1,v2].all (foldedForSure 8)=false) (hk:[v1,v2].all (constantsAlone 8)=false):
  swappedStores [.Tuple [.Name a pa,.Name b pb] k tpos] (.Tuple [v1,v2] k2 p2) env=pure (some [a,b]):=by
 have ka:env.kindOf a=some .local:=by unfold PySem.Env.kindOf;rw[ek.names];exact la
 have kb:env.kindOf b=some .local:=by unfold PySem.Env.kindOf;rw[ek.names];exact lb
 have bk:(env.blockKind != .function)=false:=by unfold PySem.Env.blockKind;rw[ek.kind];rfl
 have hn:List.filterMap (fun x=>swappedStores.match_8 (fun J=>Option Str) x (fun id pos=>if (env.kindOf id==some .local&&pos.line==(Option.map (fun x=>x.pos.line) [Expr.Name a pa,Expr.Name b pb].head?).getD 0)=true then some id else none) fun J=>none) [.Name a pa,.Name b pb]=[a,b]:=by
  refine(List.filterMap_cons_some (b:=a) ?_).trans (congrArg (List.cons a) (List.filterMap_cons_some (b:=b) ?_))
  .show (if (env.kindOf a==some .local&&pa.line==pa.line)=true then some a else none)=some a
   rw[ka];exact if_pos (beq_self_eq_true _)
  .show (if (env.kindOf b==some .local&&pb.line==pa.line)=true then some b else none)=some b
   rw[kb];exact if_pos hl
 unfold swappedStores
 dsimp only
 rw[hn]
 exact Zh (bor rfl (bor rfl bk)) (Zh (bor (YV h1) (bor (YV h2) rfl)) (Zh (bor rfl (by rw[Y4 hab];rfl)) (Zh hf (Zh hk rfl))))
set_option tactic.hygienic true in
theorem Sw{m:ME Fn}{a b:Str}{pa pb tpos p2:Pos}{k k2:Nat}{v1 v2:Expr}{i j:Nat}(h1:Ar v1=true)(h2:Ar v2=true)(la:ns.lookup a=some .local)(lb:ns.lookup b=some .local)(hl:(pb.line==pa.line)=true)(hab:a≠b)
  (hf:[v1,v2].all (foldedForSure 8)=false) (hk:[v1,v2].all (constantsAlone 8)=false) (hij:i≠j) (hi:Γ[i]? =some a) (hj:Γ[j]? =some b) (nd:Γ.Nodup) (h:MR U xc C A Ad env n ns Γ m (.Tuple [v1,v2] k2 p2)):
  SS U xc C A Ad env n ns Γ (.asgT [i,j] m) (.Assign [.Tuple [.Name a pa,.Name b pb] k tpos] (.Tuple [v1,v2] k2 p2) pos):=by
 intro X ρ H s vs Q E sx x eo hp
 have hsw:=Q4 (k:=k) (k2:=k2) (tpos:=tpos) (p2:=p2) sx.ek h1 h2 la lb hl hab hf hk
 refine Assign_Tuple_swapped (names:=[a,b]) ?_ (by rfl) hsw
 refine h X sx ρ H s vs _ E x eo (hp.bnd (rel:=Aq U) fun v H1 ρ1 v' h1 Bk _ l1 x1 r1 AS=> ?_)
 obtain⟨i',c,rfl,hcell,Cb⟩:=Kr AS
 cases c<;>first | exact Cb.elim | skip
 rename_i xs
 obtain⟨vs',hset,hp3⟩:=Ix Cb
 obtain⟨a',e1,lo,ws,il,vv⟩:=FS.at (s:={ s with heap:=h1,toks:=Bk}) x1 hcell
 obtain⟨p,ep,rfl⟩:=r1
 rw[e1]at ep;cases ep
 match xs,hset,ws,vv with
 | [x1',x2'],hset,[w1,w2],⟨r1,r2,_⟩=>
  have hL:[a,b].length=#[w1,w2].size:=rfl
  rw[hL]
  refine unpackItems_tuple (s:={ s with heap:=h1,toks:=Bk}) (items:=#[w1,w2]) sx.cx.hh il fun h2 he=> ?_
  have x2:AL U X ρ1 H1 h2:=by
   have hs:∀b o,h1.get? b=some o->h2.get? b=some o:=fun b o g=>he b o (Nat.ne_of_lt (Heap.lt_size g)) g
   exact x1.keeps hs
  have e2:En [j,i] [x2',x1'] vs=some vs':=by
   have:En [i,j] [x1',x2'] vs=some vs':=hset
   rw[<-this]
   simp only [En]
   rw[List.set_comm _ _ hij]
  refine EL (fun p=>bindName env p.1) (fun p v Q E s hq=>wpAny_bindName hq) [j,i] [(b,pb),(a,pa)] [x2',x1'] [w2,w1] X vs vs' _ _ sx x2 (eo.mono l1) ⟨r2,r1,trivial⟩ rfl (fun q r p a b=> ?_) nd e2 fun X' h' CG sm sx' x' eo'=> ?_
  .match q,a,b with
   | 0,a,b=>
    cases a;cases b
    exact⟨hj,by unfold A1;rw[lb];rfl⟩
   | 1,a,b=>
    cases a;cases b
    exact⟨hi,by unfold A1;rw[la];rfl⟩
   | q+2,a,b=>simp at a
  .exact hp3 X' ρ1 h' CG sm sx' (BE _) x' eo'
 | [],hset,_,_=>cases hset
 | [_],hset,_,_=>cases hset
 | _::_::_::_,hset,_,_=>cases hset
 | [_,_],_,[],vv=>exact vv.elim
 | [_,_],_,[_],vv=>exact vv.2.elim
 | [_,_],_,_::_::_::_,vv=>exact vv.2.2.elim
theorem U3{m:ME Fn}{e:Expr}{i:Nat}{nm:Str}{px:Pos}{sem:PySem.Env->Option (Value->Sem Unit)->Sem Value}(hi:Γ[i]? =some nm)(nd:Γ.Nodup)(hk:ns.lookup nm=some .local)
  (hx:∀X env,AJ X Ad env ns->exec (.Assign [.Name nm px] e pos) env=(do standAt pos;(sem env (some (assign (.Name nm px) env)) >>= fun J=>pure ());pure .next))
  (h:∀X,SX U A X Ad env n ns->Tw U xc C A X env Γ m (sem env)):
  SS U xc C A Ad env n ns Γ (.asg i m) (.Assign [.Name nm px] e pos):=by
 intro X ρ H s vs Q E sx x eo hp
 rw[hx X env sx.ek]
 refine As (wpAny_standAt (As (As ?_)))
 have hpE:=hp.bnd (rel:=Aq U) (Q1:=fun J J=>True) fun v H1 ρ1 v' h1 Bk J l1 x1 r1 AS=>trivial
 refine wpAny_mono (h X sx ρ H s vs (some (assign (.Name nm px) env)) (fun J J=>True) (fun J s'=>Q .next s') E x eo hpE fun ρ1 h1 Bk l1=> ?_) (fun J s' hq=>BH (BH hq)) fun J J e=>e
 intro D Cd ρ' H' v h' CG oC mC l2 F Dn r er _
 unfold compPost
 dsimp only
 have gC:=F.exGet (p:=(Cd,oC)) (.head _)
 have AS:Bw U xc A Ad env n ns Γ X ρ (Mine.ret (vs.set i (some v),Option.none) H') Q E s:=by
  change Bw _ _ _ _ _ _ _ _ _ _ (bnd _ _ _) _ _ _ at hp
  unfold bnd at hp
  rw[er]at hp
  exact hp
 refine PySem.wpAny_assign_Name (Fl (s:={ s with heap:=h',toks:=CG}) (ex1:=(Cd,oC)::X.ex) sx F ((eo.mono l1).mono l2) hi nd (by unfold A1;rw[hk];rfl) r fun X' h2 tk2 sm sx' x' eo'=> ?_)
 refine⟨mC,Dn _ (x'.exGet (p:=(Cd,oC)) (.head _)),fun h3 hs=> ?_⟩
 have x3:=FS.dropEx (X:=X') (ex:=X.ex) x' hs.extBut
 have ex':X'.withEx X.ex=X':=by rw[<-sm.ex]
 rw[ex']at x3
 exact AS X' ρ' h3 tk2 sm sx' (l1.trans l2) x3 eo'
theorem QT(x:AL U X ρ H s.heap){o v:V}{o' v':Value}{Q:Value->Shared->Prop}(vo:Aq U ρ o o')(vv:Aq U ρ v v')(hp:Ae (Aq U) U xc X ρ (bnd (CI o v) (fun J=>Mine.ret o) H) Q E s):
  wpAny (model U.prog U.w) A (inplaceOp .Add o' v') Q E s:=by
 unfold CI at hp
 by_cases hov:o=v
 .rw [if_pos hov]at hp;exact hp.elim
 rw[if_neg hov]at hp
 obtain⟨i,c,rfl,hc,hp⟩:=Sr hp
 refine Bu (P:=fun v=>Aq U ρ v v'->_) hp.as (fun j d hd hp vv=> ?_) vv
 refine Q3 (P:=fun c=>H[i]? =some c->_) hp (fun xs hp hc=>Q3 (P:=fun d=>H[j]? =some d->_) hp (fun ys hp hd=>FW hp fun hl hp=> ?_) hd) hc
 have vo':=vo
 revert vo'
 refine vo.refE (P:=fun y=>Aq U ρ _ y->wpAny _ _ (inplaceOp _ y _) _ _ _) fun p ep=>vv.refE (P:=fun y=>Aq U ρ _ _->wpAny _ _ (inplaceOp _ _ y) _ _ _) fun q eq vo'=> ?_
 obtain⟨vs,n,ws,n2,g1,g2,hz,fx⟩:=x.ext ep eq hc hd hl
 exact K1 ⟨_,g1,rfl⟩ ⟨_,g2,rfl⟩ (call_meets PySem.F.slot_list_iadd ⟨_,g1,rfl⟩ PySem.F.entry_list_iadd (PySem.F.args_list_iadd_2 _ _) (PySem.AutoSeq1.list___iadd___list_list_0 p.1 vs.toArray n q.1 ws.toArray n2 (fun h=>OB hz ((DK _ _).mp h).2) (BZ (Nat.le_trans (Nat.le_add_right _ _) hz)) (Nat.le_succ_of_le (BZ hz))) ⟨g1,g2,hp ρ (.ref p.1) _ s.toks (BE _) fx vo'⟩)
theorem Ub{m:ME Fn}{e:Expr}{i:Nat}{nm:Str}{px:Pos}(hi:Γ[i]? =some nm)(nd:Γ.Nodup)(hk:ns.lookup nm=some .local)(h:MR U xc C A Ad env n ns Γ m e):
  SS U xc C A Ad env n ns Γ (.augL i m) (.AugAssign (.Name nm px) .Add e pos):=by
 intro X ρ H s vs Q E sx x eo hp
 obtain⟨o,ho,hp⟩:=Ix hp
 have hv:vs[i]? =some (some o):=by
  cases q:vs[i]? with
  | none=>rw[q]at ho;cases ho
  | some w=>rw[q]at ho;cases w with | none=>cases ho | some w=>cases ho;rfl
 have hx:env.kindOf nm=some .local:=by unfold PySem.Env.kindOf;rw[sx.ek.names];exact hk
 obtain⟨y,hy,ly⟩:=eo.get i o nm hv hi (by rw[hx];rfl)
 refine wpAny_AugAssign_Name ?_
 have hm:X.m nm=some y:=by
  rcases ly with⟨_,_,c⟩ | ⟨a | a,_⟩ | ⟨_,o2,m2,b1,b2,b3⟩
  .exact c
  .rw [hx]at a;cases a
  .rw [hx]at a;cases a
  .exfalso
   obtain⟨F,ps,p,N,D,lo⟩:=x
   exact(N (env.locals,o2) (B1 _ b1)).2.1 sx.loc
 refine wpAny_loadName_local sx.ek.kind hx (by rw[sx.loc];exact x.fr.ns) hm ?_
 refine h X sx ρ H s vs _ E x eo (hp.bnd (rel:=Aq U) fun v H1 ρ1 v' h1 Bk J l1 x1 r1 AS=> ?_)
 have e0:(bnd (CI o v) (fun J=>Mine.ret (vs,Option.none)) H1:R (Mine.Env×Option V))=bnd (bnd (CI o v) (fun J=>Mine.ret o)) (fun J=>Mine.ret (vs,Option.none)) H1:=by
  simp only [bnd]
  cases CI o v H1<;>rfl
 rw[e0]at AS
 refine QT x1 (hy.mono l1) r1 (AS.bnd (rel:=Aq U) fun z H2 ρ2 z' h2 tk2 he l2 x2 r2 Cb=> ?_)
 have hz:z=o:=by
  unfold bnd at he
  cases q:CI o v H1 with
  | ok a H3=>rw[q]at he;cases he;rfl
  | exc a H3=>rw[q]at he;cases he
  | bad=>rw[q]at he;cases he
 subst hz
 refine Fl (s:={ s with heap:=h2,toks:=tk2}) (ex1:=X.ex) sx x2 ((eo.mono l1).mono l2) hi nd (by unfold A1;rw[hk];rfl) r2 fun X' h' CG sm sx' x' eo'=> ?_
 have ex':X'.withEx X.ex=X':=by rw[<-sm.ex]
 rw[ex']at x'
 have e3:vs.set i (some z)=vs:=by
  apply List.ext_getElem?
  intro j
  by_cases hj:i=j
  .subst hj;rw[List.getElem?_set_self (by rw[eo.len];exact(Es.mp hi).1),hv]
  .rw [List.getElem?_set_ne hj]
 rw[e3]at eo'
 exact Cb X' ρ2 h' CG sm sx' (BE _) x' eo'
theorem ID(f:Array Value->Array Value)(o:Obj):(Obj.mapFields f o).dict=o.dict:=by
 obtain⟨c,d,t,s⟩:=o
 cases t<;>rfl
inductive eU(h base:Heap)(e:Addr)(cls:Value)(d L:Addr):Prop
 | mk (oe:_) (vs:_) (T:_) (oT:_) (ts:_) (q0:h.get? e=some oe) (q1:oe.cls=cls) (q2:oe.dict=some d) (q3:oe.data=.fields vs) (q4:1 < vs.size) (q5:vs[1]? =some (.ref T)) (q6:base.get? T=none) (q7:T≠e) (q8:h.get? T=some oT) (q9:oT.data=.fields ts) (q10:ts[3]? =some (rawInt L)):eU h base e cls d L
inductive T8(cls:Value)(base:Heap)(l:List PySem.Env)(L:Addr)(e:Addr)(msg:Nat)(news:List (Addr×Obj))(h:Heap):Prop
 | mk (B:_) (d:_) (es:_) (n:_) (t:_) (q0:base.StaysIn B) (q1:(∀q ∈ news,B.get? q.1=some q.2/\base.get? q.1=none)) (q2:B.StaysIn h) (q3:B.get? e=none) (q4:h.FunFrames B l) (q5:eU h B e cls d L) (q6:B.get? d=some (W.dictOf es n)) (q7:getL "message" es=some (some (.str (wd msg) t))):T8 cls base l L e msg news h
section
variable{M:Model}{cls:Value}{base:Heap}{outer l:List PySem.Env}{L L' e:Addr}{msg:Nat}{news:List (Addr×Obj)}{Q:Unit->Shared->Prop}
theorem Jf{B:Heap}{d:Addr}{oe:Obj}{vs:Array Value}{head:Value}{hadNext:Bool}(hfr:A.frames=some (env::outer))(hf:env.frame=some L)(hl:s.heap.FunFrames B (env::outer))(hB:B.StaysIn s.heap)(hBe:B.get? e=none)
  (he:s.heap.get? e=some oe) (hc:oe.cls=cls) (hd:oe.dict=some d) (hv:oe.data=.fields vs) (hsz:1 < vs.size)
  (hQ:∀h',B.StaysIn h'->h'.FunFrames B (env::outer)->eU h' B e cls d L->s.heap.UpToSlots h'->Q () { s with heap:=h'}):
  wpAny M A (do let a <-frameOf env;let pl <-entryPlaceOf L hadNext;let b <-EntryCells.newEntry head a .none (rawInt L) .none pl;setField (.ref e) 1 b) Q E s:=by
 have JK:e ∉ (env::outer).filterMap (·.frame):=fun hm=>by
  obtain⟨_,o,ho,hnf⟩:=hl.mem hm
  rw[he]at ho;cases ho
  exact hnf vs hv
 refine As (wpAny_frameOf_fun hfr hl hf fun h₁ hs₁=> ?_)
 refine As (wpAny_entryPlaceOf fun pl hpl=> ?_)
 unfold EntryCells.newEntry newFields
 refine As (wpAny_newObj_type ?_ (hpl.sizeOk5 _ _ _ _ _))
 have he₁:h₁.get? e=some oe:=(hs₁.2.1 e JK).trans he
 have kb₁:B.StaysIn h₁:=fun b o hbo=>(hs₁.2.1 b fun hm=>by rw[(hl.mem hm).1]at hbo;cases hbo).trans (hB b o hbo)
 generalize hob:({ cls:= .type "traceback",dict:=none,data:= .fields ([head,.ref L,.none,rawInt L,.none]++(if pl.isEmpty then List.replicate 6 Value.none else pl)).toArray}:Obj)=ob
 have hob':∃ts:Array Value,ob.data=.fields ts/\ts[3]? =some (rawInt L):=⟨_,by rw[<-hob],by simp⟩
 have he₂:=Dx (h:=h₁) ob he₁
 refine wpAny_setField he₂ hv hsz ?_
 have hv₃:=Obj.data_mapFields hv (·.setIfInBounds 1 (Value.ref h₁.objs.size))
 have he₃:=Heap.get?_update_self (Obj.mapFields (·.setIfInBounds 1 (Value.ref h₁.objs.size))) he₂ (Obj.isFreed_of_fields hv₃)
 have hTe:h₁.objs.size≠e:=Nat.ne_of_gt (Heap.lt_size he₁)
 have hT₃:=(Heap.get?_update_other (h₁.push ob) (Obj.mapFields (·.setIfInBounds 1 (Value.ref h₁.objs.size))) (Ne.symm hTe)).trans (Heap.get?_push_size h₁ (by rw[<-hob];rfl))
 have keep:∀b o,b≠e->h₁.get? b=some o->((h₁.push ob).update e (Obj.mapFields (·.setIfInBounds 1 (Value.ref h₁.objs.size)))).get? b=some o:=fun b o hbe hb=>by
  rw[Heap.get?_update_other _ _ (Ne.symm hbe)]
  exact Dx _ hb
 have apart:∀b o,s.heap.get? b=some o->(∀vs,o.data≠.fields vs)->b≠e:=fun b o hb hnf q=>by
  rw[q,he]at hb;cases hb
  exact hnf vs hv
 obtain⟨ts,hts,h3⟩:=hob'
 refine hQ _ (fun b o hbo=>keep b o (fun q=>by rw[q,hBe]at hbo;cases hbo) (kb₁ b o hbo)) (hl.of_keeps fun b o hb hnf=> ?_) ?_ fun b o hb hnf=> ?_
 .obtain ⟨sl,hs⟩:=hs₁.2.2 b o hb
  exact⟨_,keep b _ (apart b o hb hnf) hs,rfl⟩
 .exact ⟨_,_,h₁.objs.size,ob,ts,he₃,(Obj.cls_mapFields ..).trans hc,(ID _ _).trans hd,hv₃,by simpa using hsz,by simp[hsz],kb₁.fresh,hTe,hT₃,hts,h3⟩
 .obtain ⟨sl,hs⟩:=hs₁.2.2 b o hb
  exact⟨sl,keep b _ (apart b o hb hnf) hs⟩
theorem I7(hfr:A.frames=some (env::outer))(hf:env.frame=some L)(x:Ew cls base (env::outer) L' e msg news s.heap)(hLL:L'=L)
  (hQ:∀h',T8 cls base (env::outer) L e msg news h'->s.heap.UpToSlots h'->Q () { s with heap:=h'}):wpAny M A (noteFrame (.ref e) env) Q E s:=by
 subst hLL
 obtain⟨B,d,es,n,t,b1,b2,b3,b4,b5,⟨oe,vs,h1,h2,h3,h4,h5,h6⟩,b7,b8⟩:=x
 unfold noteFrame
 simp only [hf]
 rcases h6 with h6 | ⟨T,oT,ts,h6,h7,h8,h9,h10,h11⟩
 .refine As (wpAny_field h1 h4 h6 ?_)
  rw[if_neg (by decide)]
  exact Jf hfr hf b5 b3 b4 h1 h2 h3 h4 h5 fun h' k1 k2 k3 k4=>hQ h' ⟨B,d,es,n,t,b1,b2,k1,b4,k2,k3,b7,b8⟩ k4
 .refine As (wpAny_field h1 h4 h6 ?_)
  rw[if_pos (show(Value.ref T != Value.none)=true from by simp)]
  rcases h11 with h11 | h11
  .refine As (wpAny_field h9 h10 h11 ?_)
   rw[if_neg (show ¬((Value.none==rawInt L')=true)from by simp[rawInt])]
   refine As (wpAny_setField h9 h10 (Array.getElem?_eq_some_iff.mp h11).1 ?_)
   have other:∀b,b≠T->(s.heap.update T (Obj.mapFields (·.setIfInBounds 3 Value.none))).get? b=s.heap.get? b:=fun b hb=>Heap.get?_update_other _ _ (Ne.symm hb)
   have apart:∀b o,s.heap.get? b=some o->(∀vs,o.data≠.fields vs)->b≠T:=fun b o hb hnf q=>by
    rw[q,h9]at hb;cases hb
    exact hnf ts h10
   refine Jf hfr hf (b5.of_keeps fun b o hb hnf=>⟨o,(other b (apart b o hb hnf)).trans hb,rfl⟩) (fun b o hbo=>(other b fun q=>by rw[q,h7]at hbo;cases hbo).trans (b3 b o hbo)) b4
    ((other e (Ne.symm h8)).trans h1) h2 h3 h4 h5 fun h' k1 k2 k3 k4=>hQ h' ⟨B,d,es,n,t,b1,b2,k1,b4,k2,k3,b7,b8⟩ fun b o hb hnf=>k4 b o ((other b (apart b o hb hnf)).trans hb) hnf
  .refine As (wpAny_field h9 h10 h11 ?_)
   rw[if_pos (show(rawInt L'==rawInt L')=true from by simp)]
   exact BH (hQ s.heap ⟨B,d,es,n,t,b1,b2,b3,b4,b5,⟨oe,vs,T,oT,ts,h1,h2,h3,h4,h5,h6,h7,h8,h9,h10,h11⟩,b7,b8⟩ (Heap.UpToSlots.refl _))
theorem FY{fl:Option Addr}(x:T8 cls base l L e msg news s.heap)(hfl:fl=none\/fl=some L)
  (hQ:∀h',Ew cls base l L e msg news h'->(fl=some L->T8 cls base l L e msg news h')->(∀L₂ l₂,fl=none->l=env::l₂->Ew cls base l₂ L₂ e msg news h')->s.heap.UpToSlots h'->Q () { s with heap:=h'}):wpAny M A (setFlight (.ref e) fl) Q E s:=by
 obtain⟨B,d,es,n,t,b1,b2,b3,b4,b5,⟨oe,vs,T,oT,ts,h1,h2,h3,h4,h5,h6,h7,h8,h9,h10,h11⟩,b7,b8⟩:=x
 have other:∀b,b≠T->(s.heap.update T (Obj.mapFields (·.setIfInBounds 3 (fl.elim Value.none fun f=>rawInt f)))).get? b=s.heap.get? b:=
  fun b hb=>Heap.get?_update_other _ _ (Ne.symm hb)
 have apart:∀b o,s.heap.get? b=some o->(∀vs,o.data≠.fields vs)->b≠T:=fun b o hb hnf q=>by
  rw[q,h9]at hb;cases hb
  exact hnf ts h10
 have h12:3 < ts.size:=(Array.getElem?_eq_some_iff.mp h11).1
 unfold setFlight
 refine As (wpAny_field h1 h4 h6 ?_)
 rw[if_pos (show(Value.ref T != Value.none)=true from by simp)]
 have g1:B.StaysIn (s.heap.update T (Obj.mapFields (·.setIfInBounds 3 (fl.elim Value.none fun f=>rawInt f)))):=fun b o hbo=>(other b fun q=>by rw[q,h7]at hbo;cases hbo).trans (b3 b o hbo)
 have g2:(s.heap.update T (Obj.mapFields (·.setIfInBounds 3 (fl.elim Value.none fun f=>rawInt f)))).FunFrames B l:=b5.of_keeps fun b o hb hnf=>⟨o,(other b (apart b o hb hnf)).trans hb,rfl⟩
 have he:=(other e (Ne.symm h8)).trans h1
 have hT:=Heap.get?_update_self (Obj.mapFields (·.setIfInBounds 3 (fl.elim Value.none fun f=>rawInt f))) h9 (Obj.isFreed_of_fields (Obj.data_mapFields h10 _))
 have hTd:=Obj.data_mapFields h10 (·.setIfInBounds 3 (fl.elim Value.none fun f=>rawInt f))
 refine wpAny_setField h9 h10 h12 (hQ _ ⟨B,d,es,n,t,b1,b2,g1,b4,g2,⟨oe,vs,he,h2,h3,h4,h5,.inr ⟨T,_,_,h6,h7,h8,hT,hTd,?_⟩⟩,b7,b8⟩ (fun e'=> ?_) (fun L₂ l₂ e' el=> ?_) fun b o hb hnf=>⟨o.slots,(other b (apart b o hb hnf)).trans hb⟩)
 .rcases hfl with rfl | rfl
  .left;simp[h12]
  .right;simp[h12]
 .subst e'
  exact⟨B,d,es,n,t,b1,b2,g1,b4,g2,⟨oe,vs,T,_,_,he,h2,h3,h4,h5,h6,h7,h8,hT,hTd,by simp[h12]⟩,b7,b8⟩
 .subst e' el
  exact⟨B,d,es,n,t,b1,b2,g1,b4,g2.2.2,⟨oe,vs,he,h2,h3,h4,h5,.inr ⟨T,_,_,h6,h7,h8,hT,hTd,.inl (by simp[h12])⟩⟩,b7,b8⟩
theorem Je(hfr:A.frames=some (env::outer))(hf:env.frame=some L)(x:Ew cls base (env::outer) L e msg news s.heap)(L₂:Addr)
  (hQ:∀h',Ew cls base outer L₂ e msg news h'->s.heap.UpToSlots h'->Q () { s with heap:=h'}):wpAny M A (leaving env (.ref e)) Q E s:=by
 unfold leaving
 refine As (I7 hfr hf x rfl fun h1 k1 k2=> ?_)
 refine FY (env:=env) (s:={ s with heap:=h1}) k1 (.inl rfl) fun h2 J J k3 k4=>hQ h2 (k3 L₂ outer rfl rfl) (k2.trans k4)
theorem VQ{E':Value->Shared->Prop}(hfr:A.frames=some (env::outer))(hf:env.frame=some L)(x:Ew cls base (env::outer) L e msg news s.heap)
  (hE:∀h',Ew cls base (env::outer) L e msg news h'->s.heap.UpToSlots h'->E' (.ref e) { s with heap:=h'}):notedBy M A env (cameBackBy M A env E') (.ref e) s:=by
 unfold notedBy cameBackBy
 refine I7 hfr hf x rfl fun h1 k1 k2=> ?_
 have k1':=k1
 obtain⟨B,d,es,n,t,b1,b2,b3,b4,b5,⟨oe,vs,T,oT,ts,h1',h2,h3,h4,h5,h6,_⟩,b7,b8⟩:=k1'
 refine As (wpAny_field h1' h4 h6 ?_)
 rw[if_neg (show ¬((Value.ref T==Value.none)=true)from by simp)]
 rw[hf]
 exact FY (env:=env) (s:={ s with heap:=h1}) k1 (.inr rfl) fun h2 k3 J J k4=>hE h2 k3 (k2.trans k4)
end
theorem SX.ex(sx:SX U A X Ad env n ns)(ex:List (Addr×Obj)):SX U A (X.withEx ex) Ad env n ns:=⟨sx.cx.ex ex,sx.ek.ex ex,sx.loc,sx.cel,sx.inj,sx.og⟩
theorem EO.re(sx:SX U A X Ad env n ns)(F:AL U X ρ H h)(eo:EO U X ρ env Γ vs)(ex:List (Addr×Obj)):EO U (X.withEx ex) ρ env Γ vs:=by
 obtain⟨Fr',ps,p,N,D,lo⟩:=F
 refine⟨eo.len,fun i v x h1 h2 h3=> ?_⟩
 obtain⟨y,hy,ly⟩:=eo.get i v x h1 h2 h3
 refine⟨y,hy,?_⟩
 rcases ly with l | ⟨a,c,o,b1,b2,b3⟩ | ⟨a,o,m,b1,b2,b3⟩
 .exact .inl l
 .obtain ⟨o2,v0,m2,d2⟩:=sx.cel x c b1
  have e1:=(N (c,o) (B1 _ b2)).1
  have e2:=(N (c,o2) (B1 _ (B1 _ m2))).1
  dsimp only at e1 e2
  rw[e1]at e2
  cases e2
  exact .inr (.inl ⟨a,c,o,b1,B1 _ m2,b3⟩)
 .exact absurd sx.loc (N (env.locals,o) (B1 _ b1)).2.1
theorem Ew.sub{cls:Value}{base:Heap}{l:List PySem.Env}{L e:Addr}{msg:Nat}{news news':List (Addr×Obj)}(x:Ew cls base l L e msg news h)(hs:∀p ∈ news',p ∈ news):Ew cls base l L e msg news' h:=by
 obtain⟨B,d,es,n,t,b1,b2,b3,b4,b5,b6,b7,b8⟩:=x
 exact⟨B,d,es,n,t,b1,fun q hq=>b2 q (hs q hq),b3,b4,b5,b6,b7,b8⟩
theorem Sv.drop{p:Addr×Obj}{ex:List (Addr×Obj)}{msg:Nat}{e:Addr}(x:Sv U xc (X.withEx (p::ex)) msg ρ H e h):Sv U xc (X.withEx ex) msg ρ H e h:=by
 obtain⟨ps,h₂,p1,D,lo,st,F,u⟩:=x
 have sub:((X.withEx ex).px++ps.flatten).Sublist ((X.withEx (p::ex)).px++ps.flatten):=((List.sublist_cons_self _ _).append_left _).append_right _
 refine⟨ps,h₂,p1,?_,lo,st.sub fun q hq=>sub.subset hq,F,u⟩
 unfold BC at D ⊢
 exact D.sublist (sub.map _)
theorem L8{msg:Nat}{e:Addr}{E':Value->Shared->Prop}(cx:Cx U A X Ad n)(he:env=Ad)(x:Sv U xc X msg ρ H e s.heap)(hE:∀h',Sv U xc X msg ρ H e h'->E' (.ref e) { s with heap:=h'}):
  notedBy (model U.prog U.w) A env (cameBackBy (model U.prog U.w) A env E') (.ref e) s:=by
 subst he
 obtain⟨ps,h₂,p1,D,lo,st,F,u⟩:=x
 obtain⟨A₀,outer,_,hl⟩:=cx.B
 have hA:=cx.hA
 rw[hl]at st hA
 refine VQ hA cx.hf st fun h' k1 k2=>hE h' ⟨ps,h₂,p1,D,lo,?_,F,u.trans k2⟩
 rw[hl];exact k1
inductive W1(U:Un)(xc:Value)(A:Around)(Ad env:PySem.Env)(n:Nat)(ns:Dm)(Γ:List Str)(X:Fx)(ρ0:A8)(items:List V)(Ready:MH->Prop)(st:Nat->Obj->Prop)(f:V->Mine.Env->M (Mine.Env×Option V))(post:M Unit)(I:Addr)(Q:Flow->Shared->Prop)(E:Value->Shared->Prop)(s0:Shared)(j:Nat)(s':Shared):Prop
 | mk (k:_) (Xk:_) (ρk:_) (Hk:_) (h:_) (tk:_) (vsk:_) (oI:_) (q0:s'={ s0 with heap:=h,toks:=tk}) (q1:j=items.length+1 - k) (q2:k<=items.length) (q3:CH X Xk) (q4:SX U A Xk Ad env n ns) (q5:ρ0 <+:ρk) (q6:AL U (Xk.withEx ((I,oI)::X.ex)) ρk Hk h) (q7:st k oI) (q8:Ready Hk) (q9:EO U Xk ρk env Γ vsk) (q10:Bw U xc A Ad env n ns Γ Xk ρk (ER f post (items.drop k) vsk Hk) Q E s'):W1 U xc A Ad env n ns Γ X ρ0 items Ready st f post I Q E s0 j s'
theorem Fq{X Y:Fx}(e:Y.ex=X.ex):Y.withEx X.ex=Y:=by rw[<-e]
theorem H8{nm:Str}{i:Nat}{px:Pos}{body:List Stmt}{b:List (MS Fn)}{I:Addr}{items:List V}{Ready:MH->Prop}{st:Nat->Obj->Prop}{post:M Unit}{Q:Flow->Shared->Prop}{s0:Shared}(he:env=Ad)
  (src:Xu U A I items Ready ρ0 st) (hpost:∀H,(post H=.ok () H/\Ready H)\/post H=.bad) (hi:Γ[i]? =some nm) (nd:Γ.Nodup) (hk:A1 ns nm=true) (hb:NS U xc C A Ad env n ns Γ b body)
  {m₀:Nat} {s₁:Shared} (h:W1 U xc A Ad env n ns Γ X ρ0 items Ready st (fun x env=>Ak C b (env.set i (some x))) post I Q E s0 m₀ s₁):
  codeAny (model U.prog U.w) A (.forLoop (.Name nm px) (.ref I) body [] env) (fun r s'=>match r with | .ok f=>Q f s' | .error e=>cameBackBy (model U.prog U.w) A env E e s') s₁:=by
 refine codeAny_forLoop (fun j s'=>W1 U xc A Ad env n ns Γ X ρ0 items Ready st (fun x env=>Ak C b (env.set i (some x))) post I Q E s0 j s') ?_ m₀ h
 rintro j s' ⟨k,Xk,ρk,Hk,h,tk,vsk,oI,rfl,rfl,hkl,sm,sx,l0,F,hst,hrd,eo,hp⟩
 have gI:h.get? I=some oI:=F.exGet (p:=(I,oI)) (.head _)
 cases hv:items[k]? with
 | none=>
  have hkl:k=items.length:=Nat.le_antisymm hkl (by rw[List.getElem?_eq_none_iff]at hv;exact hv)
  subst hkl
  refine src.done (Xk.withEx ((I,oI)::X.ex)) ρk Hk _ oI _ _ l0 F gI hst hrd fun h₁ hx=> ?_
  rw[List.drop_length]at hp
  have F2:=F.dropEx hx
  rw[Fq sm.ex]at F2
  exact wpAny_execs_nil (hp Xk ρk h₁ tk .refl sx (BE _) F2 eo)
 | some v=>
  have Ef:k < items.length:=(Es.mp hv).1
  have hdrop:items.drop k=v::items.drop (k+1):=by
   rw[List.drop_eq_getElem_cons Ef]
   rw[List.getElem?_eq_getElem Ef]at hv
   rw[Option.some.inj hv]
  refine src.item k (Xk.withEx ((I,oI)::X.ex)) ρk Hk _ oI v _ _ l0 hv F gI hst hrd fun v' h₁ oI' tk₁ hv' hs₁ ho₁ hst'=> ?_
  have F1:AL U (Xk.withEx ((I,oI')::X.ex)) ρk Hk h₁:=FS.setEx (X:=Xk.withEx ((I,oI)::X.ex)) (pre:=[]) F rfl hs₁ ho₁
  refine PySem.wpAny_assign_Name (Fl (s:={ s0 with heap:=h₁,toks:=tk₁}) (ex1:=(I,oI')::X.ex) sx F1 eo hi nd hk hv' fun X1 h2 tk2 sm1 sx1 x1 eo1=> ?_)
  have sx2:=sx1.ex ((I,oI')::X.ex)
  have eo2:EO U (X1.withEx ((I,oI')::X.ex)) ρk env Γ (vsk.set i (some v)):=by
   have:=EO.re (X:=X1.withEx ((I,oI')::X.ex)) (h:=h2) (H:=Hk) sx2 x1 (vs:=vsk.set i (some v)) (Γ:=Γ) ⟨eo1.len,fun j w y a b c=> ?_⟩ ((I,oI')::X.ex)
   .exact this
   .obtain ⟨z,hz,lz⟩:=eo1.get j w y a b c
    refine⟨z,hz,?_⟩
    have up:∀q,q ∈ X1.px->q ∈ (X1.withEx ((I,oI')::X.ex)).px:=fun q hq=>by
     rcases List.mem_append.mp hq with hq | hq
     .exact B1 _ hq
     .refine C9 _ (.tail _ ?_)
      rw[<-(sm.trans sm1).ex];exact hq
    rcases lz with l | ⟨a,c,o,b1,b2,b3⟩ | ⟨a,o,m,b1,b2,b3⟩
    .exact .inl l
    .exact .inr (.inl ⟨a,c,o,b1,up _ b2,b3⟩)
    .exact .inr (.inr ⟨a,o,m,up _ b1,b2,b3⟩)
  refine hb (X1.withEx ((I,oI')::X.ex)) ρk Hk { s0 with heap:=h2,toks:=tk2} _ _ _ sx2 x1 eo2 ?_
  rw[hdrop,ER]at hp
  unfold Mine.bnd at hp
  have down:∀X2:Fx,CH (X1.withEx ((I,oI')::X.ex)) X2->CH X (X2.withEx X.ex):=fun X2 s2=>⟨s2.G.trans (sm.trans sm1).G,s2.L.trans (sm.trans sm1).L,s2.base.trans (sm.trans sm1).base,s2.l.trans (sm.trans sm1).l,rfl⟩
  have downk:∀X2:Fx,CH (X1.withEx ((I,oI')::X.ex)) X2->CH Xk (X2.withEx X.ex):=fun X2 s2=>⟨s2.G.trans sm1.G,s2.L.trans sm1.L,s2.base.trans sm1.base,s2.l.trans sm1.l,sm.ex.symm⟩
  cases hfv:Ak C b (vsk.set i (some v)) Hk with
  | bad=>rw[hfv]at hp;exact hp
  | exc msg H1=>
   rw[hfv]at hp
   intro X2 ρ2 e h3 tk3 s2 l2 x3
   have hx2:X2=X2.withEx ((I,oI')::X.ex):=(Fq (X:=X1.withEx ((I,oI')::X.ex)) s2.ex).symm
   rw[hx2]at x3
   have x4:=x3.drop
   refine L8 (s:={ s0 with heap:=h3,toks:=tk3}) (X:=X2.withEx X.ex) ((sx.cx.same (downk X2 s2))) he x4 fun h4 x5=> ?_
   exact hp (X2.withEx X.ex) ρ2 e h4 tk3 (downk X2 s2) l2 x5
  | ok p H1=>
   rw[hfv]at hp
   obtain⟨vs1,fl⟩:=p
   dsimp only at hp
   intro X2 ρ2 h3 tk3 s2 sx3 l2 F3 eo3
   have sx4:=sx3.ex X.ex
   have eo4:=eo3.re sx3 F3 X.ex
   have hx2:X2=X2.withEx ((I,oI')::X.ex):=(Fq (X:=X1.withEx ((I,oI')::X.ex)) s2.ex).symm
   have F4:AL U (X2.withEx ((I,oI')::X.ex)) ρ2 H1 h3:=by rw[<-hx2];exact F3
   cases fl with
   | some w=>
    dsimp only at hp ⊢
    intro w' r
    exact hp (X2.withEx X.ex) ρ2 h3 tk3 (downk X2 s2) sx4 l2 (F4.dropEx0) eo4 w' r
   | none=>
    dsimp only at hp ⊢
    refine⟨items.length+1 - (k+1),by exact dK ‹_›,?_⟩
    rcases hpost H1 with⟨AS,hrd1⟩ | AS
    .rw [AS]at hp
     dsimp only at hp
     refine⟨k+1,X2.withEx X.ex,ρ2,H1,h3,tk3,vs1,oI',rfl,rfl,Ef,down X2 s2,sx4,l0.trans l2,F4,hst',hrd1,eo4,?_⟩
     exact Bw.later hp (downk X2 s2) l2 _ _
    .rw [AS]at hp;exact hp.elim
theorem Bw.still{m:M (Mine.Env×Option V)}{Q:Flow->Shared->Prop}{E':Value->Shared->Prop}(hp:Bw U xc A Ad env n ns Γ X ρ (Mine.still m H) Q E s):Bw U xc A Ad env n ns Γ X ρ (m H) Q E' s:=by
 unfold Mine.still at hp
 cases q:m H with
 | ok a H1=>rw[q]at hp;exact hp
 | exc e H1=>rw[q]at hp;exact hp.elim
 | bad=>rw[q]at hp;exact hp
theorem Uk{m:ME Fn}{e:Expr}{i:Nat}{nm:Str}{px p2 p3:Pos}{b:List (MS Fn)}{body:List Stmt}(ub:UB U)(he:env=Ad)(hn:Df ns "range"=true)(hs:Ar e=true)(hi:Γ[i]? =some nm)(nd:Γ.Nodup)(hk:A1 ns nm=true)
  (h:MR U xc C A Ad env n ns Γ m e) (hb:NS U xc C A Ad env n ns Γ b body):
  SS U xc C A Ad env n ns Γ (.forN i m b) (.For (.Name nm px) (.Call (.Name "range" p2) [e] [] p3) body [] pos):=by
 intro X ρ H s vs Q E sx x eo hp
 refine wpAny_For ?_ (Dc rfl)
 have hh:A.handled=none:=sx.cx.hh
 refine By (BN sx.ek sx.cx.gf x hn (ub.blt "range" (by decide)) rfl (C0 (nm:="range") (by decide)) ?_)
 refine Au (P:=fun J=>True) (by simp[hs]) Du ?_
 refine spliced_more (h X sx ρ H s vs _ E x eo (hp.bnd (rel:=Aq U) fun v H1 ρ1 v' h1 Bk J l1 x1 r1 AS=> ?_)) (AH hs)
 refine wpAny_items_nil ⟨trivial,?_⟩
 rcases Su (v:=v)with e | ⟨z,rfl,e⟩
 .rw [e]at AS;exact AS.elim
 .obtain ⟨hb',AS⟩:=(show Bw _ _ _ _ _ _ _ _ _ _ _ _ _ _ from e▸AS).nb VY
  obtain⟨t,rfl⟩:=r1
  refine call_range_1 (Ga (s:={ s with heap:=h1,toks:=Bk+1+1}) x1 (F7 (by decide) (by unfold BR;decide) hb'.2 (by have:=hb'.1;unfold BR;exact eC ‹_›)) fun h3 I F=> ?_)
  refine H8 (s0:=s) (Q:=Q) (X:=X) he (FE (U:=U) (ρ0:=ρ1) (I:=I) (lo:=0) (hi:=z) hh) (fun H=> .inl ⟨rfl,trivial⟩) hi nd hk hb (m₀:=(BU 0 z).length+1 - 0)
   ⟨0,X,ρ1,H1,h3,Bk+1+1,vs,Em 0 z 0,rfl,rfl,Nat.zero_le _,.refl,sx,BE _,F,rfl,trivial,eo.mono l1,?_⟩
  rw[List.drop_zero]
  exact Bw.later AS .refl (BE _) _ _
theorem Uu{m m2:ME Fn}{e e2:Expr}{i:Nat}{nm:Str}{px p2 p3:Pos}{b:List (MS Fn)}{body:List Stmt}(ub:UB U)(he:env=Ad)(hn:Df ns "range"=true)(hs:Ar e=true)(hs2:Ar e2=true)(hi:Γ[i]? =some nm)(nd:Γ.Nodup)(hk:A1 ns nm=true)
  (h:MR U xc C A Ad env n ns Γ m e) (h2:MR U xc C A Ad env n ns Γ m2 e2) (hb:NS U xc C A Ad env n ns Γ b body):
  SS U xc C A Ad env n ns Γ (.forR i m m2 b) (.For (.Name nm px) (.Call (.Name "range" p2) [e,e2] [] p3) body [] pos):=by
 intro X ρ H s vs Q E sx x eo hp
 refine wpAny_For ?_ (Dc rfl)
 have hh:A.handled=none:=sx.cx.hh
 refine By (BN sx.ek sx.cx.gf x hn (ub.blt "range" (by decide)) rfl (C0 (nm:="range") (by decide)) ?_)
 refine Au (P:=fun J=>True) (by simp[hs,hs2]) Du ?_
 refine spliced_more (h X sx ρ H s vs _ E x eo (hp.bnd (rel:=Aq U) fun v H1 ρ1 v' h1 Bk J l1 x1 r1 AS=> ?_)) (AH hs)
 refine spliced_more (h2 X sx ρ1 H1 _ vs _ E x1 (eo.mono l1) (AS.bnd (rel:=Aq U) fun w H2 ρ2 w' h2 tk2 J l2 x2 r2 Cb=> ?_)) (AH hs2)
 refine wpAny_items_nil ⟨trivial,?_⟩
 rcases Su (v:=v)with e | ⟨a,rfl,e⟩
 .rw [show Ha v w _ H2=.bad from e]at Cb;exact Cb.elim
 rcases Su (v:=w)with e | ⟨z,rfl,e⟩
 .rw [show Ha (.int a) w _ H2=.bad from e]at Cb;exact Cb.elim
 .obtain ⟨hb',Cb⟩:=Cb.nb (VY (H:=H2))
  obtain⟨t,rfl⟩:=r1
  obtain⟨u,rfl⟩:=r2
  refine call_range_2 (Ga (s:={ s with heap:=h2,toks:=tk2+1}) x2 (F7 hb'.1 hb'.2.1 hb'.2.2.2 (by have:=hb'.2.2.1;unfold BR;exact eC ‹_›)) fun h3 I F=> ?_)
  refine H8 (s0:=s) (Q:=Q) (X:=X) he (FE (U:=U) (ρ0:=ρ2) (I:=I) (lo:=a) (hi:=z) hh) (fun H=> .inl ⟨rfl,trivial⟩) hi nd hk hb (m₀:=(BU a z).length+1 - 0)
   ⟨0,X,ρ2,H2,h3,tk2+1,vs,Em a z 0,rfl,rfl,Nat.zero_le _,.refl,sx,BE _,F,rfl,trivial,(eo.mono l1).mono l2,?_⟩
  rw[List.drop_zero]
  exact Bw.later (Bw.still Cb) .refl (BE _) _ _
theorem TP{m:ME Fn}{e:Expr}{i:Nat}{nm:Str}{px:Pos}{b:List (MS Fn)}{body:List Stmt}(he:env=Ad)(hset:E0 e=true)(hi:Γ[i]? =some nm)(nd:Γ.Nodup)(hk:A1 ns nm=true)
  (h:MR U xc C A Ad env n ns Γ m e) (hb:NS U xc C A Ad env n ns Γ b body):
  SS U xc C A Ad env n ns Γ (.forE i m b) (.For (.Name nm px) e body [] pos):=by
 intro X ρ H s vs Q E sx x eo hp
 have hh:A.handled=none:=sx.cx.hh
 refine wpAny_For ?_ (Dc hset)
 refine h X sx ρ H s vs _ E x eo (hp.bnd (rel:=Aq U) fun v H1 ρ1 v' h1 Bk J l1 x1 r1 AS=> ?_)
 obtain⟨j,c,rfl,hc,Cb⟩:=Kr AS
 obtain⟨xs,rfl,hl,Cb⟩:∃xs,c=.list xs/\xs.length<=BR/\Bw U xc A Ad env n ns Γ X ρ1 (still (ER (fun x env=>Ak C b (env.set i (some x))) (stays (.ref j) c) xs vs) H1) Q E { s with heap:=h1,toks:=Bk}:=by
  rcases U6 (f:=fun xs=>still (ER (fun x env=>Ak C b (env.set i (some x))) (stays (.ref j) c) xs vs)) hc with e | ⟨xs,h1,h2,e⟩
  .rw [e]at Cb;exact Cb.elim
  .rw [e]at Cb;exact⟨xs,h1,h2,Cb⟩
 .obtain ⟨a,e1,lo,ws,il,vv⟩:=FS.at (s:={ s with heap:=h1,toks:=Bk}) x1 hc
  obtain⟨p,ep,rfl⟩:=r1
  have ep':=ep
  rw[e1]at ep;cases ep
  refine wpAny_pyIter_list (s:={ s with heap:=h1,toks:=Bk}) il ?_
  have F:=FS.addEx (a:=h1.objs.size) (o:={ cls:= .type "list_iterator",data:= .fields #[.ref a.1,.int 0 0]}) x1 (fun b o e=>Dx _ e) (Heap.get?_push_size _ rfl) (Nat.le_refl _)
  refine H8 (s0:=s) (Q:=Q) (X:=X) he (LM (xs:=xs) hh ep') (fun H=>D3 H) hi nd hk hb (m₀:=xs.length+1 - 0)
   ⟨0,X,ρ1,H1,_,Bk,vs,{ cls:= .type "list_iterator",data:= .fields #[.ref a.1,.int 0 0]},rfl,rfl,Nat.zero_le _,.refl,sx,BE _,F,⟨rfl,rfl⟩,hc,eo.mono l1,?_⟩
  rw[List.drop_zero]
  exact Bw.later (Bw.still Cb) .refl (BE _) _ _
theorem IR{f:V->Mine.Env->M (Mine.Env×Option V)}{post:M Unit}{Ready:MH->Prop}(hpost:∀H,(post H=.ok () H/\Ready H)\/post H=.bad):∀(xs:List V) (env:Mine.Env) (H:MH) (Ai:Mine.Env) (H2:MH),Ready H->ER f post xs env H=.ok (Ai,Option.none) H2->Ready H2
 | [],env,H,Ai,H2,hr,e=>by
  cases e;exact hr
 | x::r,env,H,Ai,H2,hr,e=>by
  rw[ER]at e
  unfold bnd at e
  cases hf:f x env H with
  | bad=>rw[hf]at e;cases e
  | exc m H1=>rw[hf]at e;cases e
  | ok p H1=>
   rw[hf]at e
   obtain⟨e1,fl⟩:=p
   cases fl with
   | some v=>cases e
   | none=>
    dsimp only at e
    rcases hpost H1 with⟨h1,h2⟩ | h1
    .rw [h1]at e
     exact IR hpost r e1 H1 Ai H2 h2 e
    .rw [h1]at e;cases e
theorem SX.pin(sx:SX U A X Ad env n ns){a:Addr}{o:Obj}:SX (U.pinAt a o) A X Ad env n ns:=⟨sx.cx.pin,sx.ek,sx.loc,sx.cel,sx.inj,sx.og⟩
theorem SX.unpin{a:Addr}{o:Obj}(sx:SX (U.pinAt a o) A X Ad env n ns):SX U A X Ad env n ns:=⟨⟨sx.cx.B,sx.cx.hA,sx.cx.hf,sx.cx.hk,sx.cx.hh,sx.cx.hd,sx.cx.hu,⟨sx.cx.gf.K,sx.cx.gf.T,sx.cx.gf.ext⟩⟩,sx.ek,sx.loc,sx.cel,sx.inj,sx.og⟩
theorem EO.unpin{a:Addr}{o:Obj}(e:EO (U.pinAt a o) X ρ env Γ vs):EO U X ρ env Γ vs:=⟨e.len,e.get⟩
theorem Uh{m:ME Fn}{e:Expr}{i:Nat}{nm:Str}{px:Pos}{b:List (MS Fn)}{body:List Stmt}(he:env=Ad)(hset:E0 e=true)(hi:Γ[i]? =some nm)(nd:Γ.Nodup)(hk:A1 ns nm=true)
  (h:MR U xc C A Ad env n ns Γ m e) (hb:∀a o,NS (U.pinAt a o) xc C A Ad env n ns Γ b body):
  SS U xc C A Ad env n ns Γ (.forD i m b) (.For (.Name nm px) e body [] pos):=by
 intro X ρ H s vs Q E sx x eo hp
 have hh:A.handled=none:=sx.cx.hh
 refine wpAny_For ?_ (Dc hset)
 refine h X sx ρ H s vs _ E x eo (hp.bnd (rel:=Aq U) fun v H1 ρ1 v' h1 Bk J l1 x1 r1 AS=> ?_)
 have Cb:=AS
 rcases U4 (v:=v)with e | ⟨j,kvs,rfl,hc,Ba,e⟩
 .rw [e]at Cb;exact Cb.elim
 rw[e]at Cb
 clear e
 replace Cb:Bw U xc A Ad env n ns Γ X ρ1 (bnd (still (ER (fun x env=>Ak C b (env.set i (some x))) (stays (.ref j) (.dictP kvs)) (kvs.map fun p=> .w p.1) vs)) (fun r=>(match r.2 with | some _=>Mine.bad | Option.none=>bnd (D0 (.ref j) (.dictW kvs)) fun J=>Mine.ret r)) (H1.set j (.dictP kvs))) Q E { s with heap:=h1,toks:=Bk}:=Cb
 obtain⟨a,o,es,e1,lo,ho,hd,hw,Fp⟩:=FS.pinned x1 hc
 obtain⟨p,ep',rfl⟩:=r1
 rw[e1]at ep';cases ep'
 obtain⟨xs,ep,ex,hdat,hkeys,hpairs,hnd⟩:=hd
 refine wpAny_pyIter_dict (s:={ s with heap:=h1,toks:=Bk}) (knd:=PySem.strKind U.prog U.w) (kvs:=es) (ep:=ep) (Dt lo) ⟨o,xs,ho,ex,hdat,hkeys,hpairs,hnd⟩ ?_
 dsimp only
 have F0:=FS.addEx (a:=h1.objs.size) (o:={ cls:= .type "dict_keyiterator",data:= .fields #[.ref a.1,.int 0 0,.int es.length 0,.int ep 0]}) Fp (fun b o e=>Dx _ e) (Heap.get?_push_size _ rfl) (Nat.le_refl _)
 have hrd:(H1.set j (.dictP kvs))[j]? =some (.dictP kvs):=by rw[List.getElem?_set_self (Es.mp hc).1]
 refine H8 (U:=U.pinAt a.1 o) (s0:=s) (Q:=Q) (X:=X) he (Mz (U:=U.pinAt a.1 o) hh (kvs:=kvs) (ep:=ep) (es:=es) (i:=j) e1 (if_pos rfl) ⟨ex,xs,hdat,hkeys,hpairs,hnd⟩ hw.keys hw.length) (fun H=>D3 H) hi nd hk (hb a.1 o) (m₀:=(kvs.map fun p=>V.w p.1).length+1 - 0)
  ⟨0,X,ρ1,_,_,Bk,vs,{ cls:= .type "dict_keyiterator",data:= .fields #[.ref a.1,.int 0 0,.int es.length 0,.int ep 0]},rfl,rfl,Nat.zero_le _,.refl,sx.pin,BE _,F0,⟨rfl,rfl⟩,hrd,(eo.mono l1).pin,?_⟩
 rw[List.drop_zero]
 have rdy:=IR (f:=fun x env=>Ak C b (env.set i (some x))) (post:=stays (.ref j) (.dictP kvs)) (Ready:=fun H=>H[j]? =some (.dictP kvs)) (fun H=>D3 H) (kvs.map fun p=>V.w p.1) vs (H1.set j (.dictP kvs))
 unfold bnd still at Cb
 cases q:ER (fun x env=>Ak C b (env.set i (some x))) (stays (.ref j) (.dictP kvs)) (kvs.map fun p=>V.w p.1) vs (H1.set j (.dictP kvs))with
 | bad=>rw[q]at Cb;exact Cb.elim
 | exc m H2=>rw[q]at Cb;exact Cb.elim
 | ok r H2=>
  rw[q]at Cb
  obtain⟨vs',fl⟩:=r
  cases fl with
  | some v=>exact Cb.elim
  | none=>
   have hr2:=rdy vs' H2 hrd q
   intro X2 ρ2 h2 tk2 s2 sx2 l2 F2 eo2
   have F3:=FS.unpinned F2 hr2 (Dh l2 e1)
   exact Cb X2 ρ2 h2 tk2 s2 sx2.unpin l2 F3 eo2.unpin
theorem Ej:∀(l:Dm) (n:Nat) (acc:List (Str×Addr)),(acc.map (·.2)).Nodup->(∀p ∈ acc,p.2 < n)->((cellsFrom n l acc).map (·.2)).Nodup/\∀p ∈ cellsFrom n l acc,p ∈ acc\/n<=p.2
 | [],n,acc,h,_=>⟨h,fun p hp=> .inl hp⟩
 | (x,k)::r,n,acc,h,hl=>by
  unfold cellsFrom
  by_cases hk:(k==NameKind.cell)=true
  .rw [if_pos hk]
   obtain⟨h1,h2⟩:=Ej r (n+1) ((x,n)::acc) (by
    rw[List.map_cons,List.nodup_cons]
    refine⟨fun hm=> ?_,h⟩
    obtain⟨q,hq,e⟩:=List.mem_map.mp hm
    exact absurd (hl q hq) (by rw[e];exact Nat.lt_irrefl _)) (fun p hp=>by
    rcases List.mem_cons.mp hp with rfl | hp
    .exact Nat.lt_succ_self _
    .exact Nat.lt_succ_of_lt (hl p hp))
   refine⟨h1,fun p hp=> ?_⟩
   rcases h2 p hp with hp | hp
   .rcases List.mem_cons.mp hp with rfl | hp
    .exact .inr (Nat.le_refl _)
    .exact .inl hp
   .exact .inr (Nat.le_of_succ_le hp)
  .rw [if_neg hk]
   exact Ej r n acc h hl
theorem FV{cm:Str->Option Value}{cs:List (Str×Addr)}{cells:List (Addr×Obj)}(h:CellsAre cm cs cells):cells.map (·.1)=cs.map (·.2):=by
 induction h with
 | nil=>rfl
 | cons h r ih=>exact congrArg (List.cons _) ih
theorem DP{cm:Str->Option Value}{cs:List (Str×Addr)}{cells:List (Addr×Obj)}(h:CellsAre cm cs cells){y:Str}{c:Addr}(e:cs.lookup y=some c):∃o,(c,o) ∈ cells/\o.data=.cell (cm y):=by
 induction h with
 | nil=>cases e
 | @cons x d o cs cells h r ih=>
  rw[List.lookup_cons]at e
  cases q:y==x with
  | true=>
   rw[q]at e;cases e
   obtain rfl:=eq_of_beq q
   exact⟨o,.head _,h⟩
  | false=>
   rw[q]at e
   exact(ih e).elim fun o' h=>⟨o',.tail _ h.1,h.2⟩
theorem D6:∀{cs:List (Str×Addr)},(cs.map (·.2)).Nodup->∀{y z:Str} {c:Addr},cs.lookup y=some c->cs.lookup z=some c->y=z
 | [],_,_,_,_,e,_=>by cases e
 | (x,d)::cs,nd,y,z,c,e1,e2=>by
  rw[List.map_cons,List.nodup_cons]at nd
  rw[List.lookup_cons]at e1 e2
  have mem:∀{w:Str},cs.lookup w=some d->False:=fun e=>nd.1 (List.mem_map.mpr ⟨(_,d),lookup_mem' e,rfl⟩)
  cases q1:y==x<;>cases q2:z==x<;>rw[q1]at e1<;>rw[q2]at e2<;>simp only at e1 e2
  .exact D6 nd.2 e1 e2
  .cases e2;exact(mem e1).elim
  .cases e1;exact(mem e2).elim
  .rw [eq_of_beq q1,eq_of_beq q2]
where
 lookup_mem':∀{l:List (Str×Addr)} {x:Str} {a:Addr},l.lookup x=some a->(x,a) ∈ l
 | [],_,_,h=>by cases h
 | (y,j)::r,x,a,h=>by
  rw[List.lookup_cons]at h
  cases q:x==y with
  | true=>rw[q]at h;cases h;rw[beq_iff_eq.mp q];exact .head _
  | false=>rw[q]at h;exact .tail _ (lookup_mem' h)
theorem CQ:∀{a b:List (Str×Addr)} {x:Str},a.map (·.1)=b.map (·.1)->(a.lookup x).isSome=true->(b.lookup x).isSome=true
 | [],[],_,_,h=>h
 | [],_::_,_,e,_=>by simp at e
 | _::_,[],_,e,_=>by simp at e
 | (y,c)::a,(z,d)::b,x,e,h=>by
  simp only [List.map_cons,List.cons.injEq]at e
  obtain⟨rfl,e⟩:=e
  rw[List.lookup_cons]at h ⊢
  cases q:x==y with
  | true=>rfl
  | false=>rw[q]at h;exact CQ e h
structure Q9(scope:Scope)(binds:List Str):Prop where
 co:scope.isCoroutine=false
 gen:scope.isGenerator=false
 kind:scope.kind=.function
 free:∀y k,scope.names.lookup y=some k->k≠.free
 cell:∀y,scope.names.lookup y=some .cell->((cellsFrom 0 scope.names []).lookup y).isSome=true
 par:∀y ∈ binds,scope.names.lookup y=some .local\/scope.names.lookup y=some .cell
 nd:((cellsFrom 0 scope.names []).map (·.1)).Nodup
 pnd:binds.Nodup
theorem DV{kindOf:Str->Option NameKind}:∀{binds:List (Str×Value)} {m:Str->Option Value} {x:Str},(binds.map (·.1)).Nodup->kindOf x=some .local->bindL kindOf binds m x=match binds.lookup x with | some v=>some v | none=>m x
 | [],_,_,_,_=>rfl
 | (y,v)::r,m,x,nd,hk=>by
  rw[List.map_cons,List.nodup_cons]at nd
  unfold bindL
  rw[DV nd.2 hk,List.lookup_cons]
  cases q:x==y with
  | true=>
   obtain rfl:=eq_of_beq q
   have:r.lookup x=none:=by
    cases e:r.lookup x with
    | none=>rfl
    | some w=>exact absurd (List.mem_map.mpr ⟨(x,w),lookup_memV e,rfl⟩) nd.1
   rw[this,if_pos hk];simp
  | false=>
   have hxy:x≠y:=by simpa using q
   cases r.lookup x with
   | some w=>rfl
   | none=>
    dsimp only
    split
    .exact if_neg hxy
    .rfl
where
 lookup_memV:∀{l:List (Str×Value)} {x:Str} {a:Value},l.lookup x=some a->(x,a) ∈ l
 | [],_,_,h=>by cases h
 | (y,j)::r,x,a,h=>by
  rw[List.lookup_cons]at h
  cases q:x==y with
  | true=>rw[q]at h;cases h;rw[beq_iff_eq.mp q];exact .head _
  | false=>rw[q]at h;exact .tail _ (lookup_memV h)
theorem Hl{kindOf:Str->Option NameKind}:∀{binds:List (Str×Value)} {m:Str->Option Value} {x:Str},(binds.map (·.1)).Nodup->kindOf x≠some .local->bindC kindOf binds m x=match binds.lookup x with | some v=>some v | none=>m x
 | [],_,_,_,_=>rfl
 | (y,v)::r,m,x,nd,hk=>by
  rw[List.map_cons,List.nodup_cons]at nd
  unfold bindC
  rw[Hl nd.2 hk,List.lookup_cons]
  cases q:x==y with
  | true=>
   obtain rfl:=eq_of_beq q
   have:r.lookup x=none:=by
    cases e:r.lookup x with
    | none=>rfl
    | some w=>exact absurd (List.mem_map.mpr ⟨(x,w),DV.lookup_memV e,rfl⟩) nd.1
   rw[this,if_neg hk];simp
  | false=>
   have hxy:x≠y:=by simpa using q
   cases r.lookup x with
   | some w=>rfl
   | none=>
    dsimp only
    split
    .rfl
    .exact if_neg hxy
section
variable{name qual:Str}{params:Arguments}{body:List Stmt}{scope:Scope}{dV kV doc pm cdv ct:Value}{an:Option Addr}{fo:Obj}{f:Addr}{args:Args}{binds:List (Str×Value)}{R:Result->Shared->Prop}
theorem GF.nolimit(gf:GF U X.G):X.G.NoLimit:=gf.T.nolimit
theorem V1{k:Nat}(cx:Cx U A X Ad n)(hr:DI A n (k+1))(x:AL U X ρ H s.heap)(sc:Q9 scope (binds.map (·.1)))
  (ho:s.heap.get? f=some fo) (hd:fo.data=.func (fnX name qual params body scope [] dV kV doc pm an cdv ct)) (hcd:s.heap.CodeRec cdv qual)
  (hbind:BindsTo s (fnX name qual params body scope [] dV kV doc pm an cdv ct) args binds)
  (h:∀X' h₁ tk Ai,Ai=envOfC qual scope X'.L f cdv->X'.ex=X.px->X'.base=X.base->X'.l=Ai::X.l->DI (A.deeper Ai) n k->SX U (A.deeper Ai) X' Ai Ai n scope.names->AL U X' ρ H h₁->(∀x v,binds.lookup x=some v->GB X' Ai x v)->
   wpAny (model U.prog U.w) (A.deeper Ai) (execs body Ai)
    (fun fl s'=>∃X'' ex2 ρ' H' v,X''.G=X'.G/\(X.withEx ex2).px.Sublist X''.ex/\AL U X'' ρ' H' s'.heap/\v=(match fl with | .ret v=>v | _=> .none)/\(AL U (X.withEx ex2) ρ' H' s'.heap->R (.ok (.ret v)) s'))
    (fun e s'=>∃X'' ρ' H' msg e',e=.ref e'/\CH X' X''/\Sv U xc X'' msg ρ' H' e' s'.heap/\∀h'',Sv U xc X msg ρ' H' e' h''->R (.error (.ref e')) { s' with heap:=h''})
    { s with heap:=h₁,toks:=tk}):
  codeAny (model U.prog U.w) A (.call (.ref f) args) R s:=by
 obtain⟨A₀,outer,B,hl⟩:=cx.B
 have hA:=cx.hA
 obtain⟨F,ps,p,N,D,lo⟩:=x
 have hA':=hA
 rw[hl]at hA'
 have names0:∀k,(cellsFrom k scope.names []).map (·.1)=(cellsFrom 0 scope.names []).map (·.1):=fun k=>cellsFrom_names scope.names k 0 [] [] rfl
 have cell':∀k y,scope.names.lookup y=some .cell->((cellsFrom k scope.names []).lookup y).isSome=true:=fun k y hy=>CQ (names0 k).symm (sc.cell y hy)
 refine callX_cells (news:=X.px++ps.flatten) B F N cx.gf.nolimit hA' cx.hf cx.hk ho hd hcd (by have:=cx.hd;exact Nat.lt_of_le_of_lt (Nat.le_trans (Nat.le_add_right _ _) (Nat.le_add_right _ _)) ‹_›) hbind (fun k y hy=> ?_) sc.nd (fun g L' h₁ tk cells FG F' N' Y BG st lt=> ?_) sc.co sc.gen sc.kind
 .rcases sc.par y.1 (List.mem_map_of_mem hy)with e | e
  .exact .inl e
  .exact .inr ⟨e,cell' k _ e⟩
 .generalize B8:envOfC qual scope L' f cdv=Ai at *
  have addrs:=FV Y
  have ca:=Ej scope.names (L'+1) [] List.nodup_nil (by intro p hp;cases hp)
  have cnd:(cells.map (·.1)).Nodup:=by rw[addrs];exact ca.1
  have cabove:∀q ∈ cells,L' < q.1:=fun q hq=>by
   have:q.1 ∈ cells.map (·.1):=List.mem_map_of_mem hq
   rw[addrs]at this
   obtain⟨r,hr,e⟩:=List.mem_map.mp this
   rcases ca.2 r hr with hr | hr
   .cases hr
   .rw [<-e];exact hr
  let X':Fx:={ G:=g,L:=L',m:=bindL Ai.kindOf binds fun J=>none,own:=cells,ex:=X.px,base:=X.base,l:=Ai::X.l}
  have hcells:Ai.cells=cellsFrom (L'+1) scope.names []:=by rw[<-B8];rfl
  have hnames:Ai.scope.names=scope.names:=by rw[<-B8];rfl
  have gf':GF U g:=cx.gf.keeps st
  have hdp:(A.deeper Ai).depth=A.depth+1:=rfl
  have hun:(A.deeper Ai).units=A.units+3:=rfl
  have cx':Cx U (A.deeper Ai) X' Ai n:=by
   refine⟨⟨A,X.l,?_,rfl⟩,PySem.Around.frames_deeper hA,by rw[<-B8];rfl,by rw[<-B8];exact sc.kind,cx.hh,?_,?_,gf'⟩
   .show Below A X.base X.l g
    rw[hl];exact BG
   .rw [hdp];have:=hr.1;exact gZ ‹_›
   .rw [hun];have:=hr.2;exact hF ‹_›
  have rm:DI (A.deeper Ai) n k:=by
   constructor
   .rw [hdp];have:=hr.1;exact dD ‹_›
   .rw [hun];have:=hr.2;exact dG ‹_›
  have ek':AJ X' Ai Ai scope.names:=by
   refine⟨hnames,by rw[<-B8];exact sc.kind,by rw[<-B8];rfl,by rw[<-B8];rfl,by rw[<-B8];rfl,fun y hy=> ?_⟩
   rw[hcells]
   unfold PySem.Env.kindOf at hy
   rw[hnames]at hy
   rcases hy with hy | hy
   .exact cell' _ y hy
   .exact absurd rfl (sc.free y _ hy)
  have sx':SX U (A.deeper Ai) X' Ai Ai n scope.names:=by
   refine⟨cx',ek',by rw[<-B8];rfl,fun y c hy=> ?_,fun y z c hy hz=> ?_,fun e he=> ?_⟩
   .rw [hcells]at hy
    obtain⟨o,h1,h2⟩:=DP Y hy
    exact⟨o,_,h1,h2⟩
   .rw [hcells]at hy hz
    exact D6 ca.1 hy hz
   .have he':Ai::X.l=[e]:=he
    rw[hl]at he';cases he'
  have x':AL U X' ρ H h₁:=by
   refine⟨F',ps,p,?_,?_,lo⟩
   .have:X'.px++ps.flatten=cells++(X.px++ps.flatten):=by simp[X',Fx.px]
    rw[this];exact N'
   .have:X'.px++ps.flatten=cells++(X.px++ps.flatten):=by simp[X',Fx.px]
    rw[this]
    refine Gy D cnd fun p hp q hq=> ?_
    exact Nat.lt_trans (lt q hq) (cabove p hp)
  have ld:∀x v,binds.lookup x=some v->GB X' Ai x v:=fun y v hy=>by
   have hm:y ∈ binds.map (·.1):=List.mem_map.mpr ⟨(y,v),DV.lookup_memV hy,rfl⟩
   have hk:Ai.kindOf y=scope.names.lookup y:=by unfold PySem.Env.kindOf;rw[hnames]
   rcases sc.par y hm with e | e
   .refine .inl ⟨hk.trans e,by rw[<-B8];rfl,?_⟩
    show bindL Ai.kindOf binds (fun J=>none) y=some v
    rw[DV sc.pnd (hk.trans e),hy]
   .have hs:=cell' (L'+1) y e
    obtain⟨c,hc⟩:=Option.isSome_iff_exists.mp hs
    obtain⟨o,h1,h2⟩:=DP Y hc
    refine .inr (.inl ⟨.inl (hk.trans e),c,o,by rw[hcells];exact hc,B1 _ h1,?_⟩)
    rw[h2,Hl sc.pnd (by rw[hk,e];decide),hy]
  refine wpAny_mono (h X' h₁ tk Ai B8.symm rfl rfl rfl rm sx' x' ld) (fun fl s' hq=> ?_) (fun e s' hq=> ?_)
  .obtain ⟨X'',ex2,ρ',H',v,hG,hex,F2,rfl,k⟩:=hq
   obtain⟨Fr2,ps2,p2,N2,D2,lo2⟩:=F2
   have hG:X''.G=g:=hG
   rw[hG]at Fr2 N2
   refine leaveK_ (L':=X''.L) (m':=X''.m) Fr2 N2 fun FX NX=>k ?_
   have sub:((X.withEx ex2).px++ps2.flatten).Sublist (X''.px++ps2.flatten):=by
    refine List.Sublist.append ?_ (List.Sublist.refl _)
    exact hex.trans (List.sublist_append_right _ _)
   refine⟨FX,ps2,p2,DE NX fun q hq=>sub.subset hq,?_,lo2⟩
   unfold BC at D2 ⊢
   exact D2.sublist (sub.map _)
  .obtain ⟨X'',ρ',H',msg,e',rfl,sm,E2,k⟩:=hq
   obtain⟨ps2,h₂,p2,D2,lo2,st2,Fr2,u2⟩:=E2
   have hG:X''.G=g:=sm.G
   have hex:X''.ex=X.px:=sm.ex
   have hbase:X''.base=X.base:=sm.base
   have hl2:X''.l=Ai::X.l:=sm.l
   have hL2:X''.L=L':=sm.L
   rw[hbase,hl2,hL2]at st2
   rw[hG]at Fr2
   refine Je (env:=Ai) (outer:=X.l) (PySem.Around.frames_deeper hA) (by rw[<-B8];rfl) st2 X.L fun h'' k1 k2=>k h'' ?_
   have sub:(X.px++ps2.flatten).Sublist (X''.px++ps2.flatten):=by
    refine List.Sublist.append ?_ (List.Sublist.refl _)
    unfold Fx.px at hex ⊢
    rw[hex]
    exact List.sublist_append_right _ _
   refine⟨ps2,g,p2,?_,lo2,k1.sub fun q hq=>sub.subset hq,FG,((Heap.UpToSlots.of_keeps Fr2.keep).trans u2).trans k2⟩
   unfold BC at D2 ⊢
   exact D2.sublist (sub.map _)
end
noncomputable abbrev B9:List Value:=[.type "Exception",.type "BaseException",.type "object"]
section
variable{prog:Program}{w:World}{g:Array GenState}{d:Drawn}{t:Nat}{os:OsState}{K:Frag}
variable{nm q:Str}{C D N:Addr}{bs:List Value}{hdct:Bool}{sn:List Str}{sub:List Value}{ab:Bool}{col:Option Bool}{dd:Option Addr}{k0 k1 k2 k3 k5:Option Value}{B initId:String}
theorem Jv(F:ExcBaseFacts "Exception" "Exception.__new__" initId B9)(X:K.In h)(T:OwnTail h B9 (.ref D::B9)){fI:Addr}{v:Value}{Q:PySem.Fin->Shared->Prop}
  (hC:h.get? C=some (excClassObj nm q C N bs (.ref D::B9) hdct sn sub ab col dd k0 k1 k2 k3 k5 "Exception.__new__"))
  (hi:findIn K (.ref C) "__init__"=some (some (.ref fI))) (hf:isFn K (.ref fI)=true)
  (hq:∀h2:Heap,h2=(h.push { cls:= .type "tuple",data:= .seq [v].toArray}).push { cls:= .ref C,data:= .fields #[.ref h.objs.size,.none,.none,.none,.bool false,.none]}->
   wpAny (model prog w) A (call (.ref fI) [.ref (h.objs.size+1),v]) (fun r s'=>r=.none/\Q (.done (.ret (.ref (h.objs.size+1)))) s') E ⟨h2,g,d,t,os⟩):
  wpAny (model prog w) A (Builtin.«type.__call__» ⟨[.ref C,v],[]⟩) Q E ⟨h,g,d,t,os⟩:=by
 repeat (first | with_reducible refine wpAny_loadPart_at hC ?_ | with_reducible refine wpAny_madeBy_exc hC ?_ | wp_step)
 refine codeAny_call_builtin_code (Code.quiet_builtin _ F.quiet) (wpAny_check_new_subT F T hC ?_)
 refine codeAny_exc_new_subT F T hC ?_ (by rw[sizeLine_eq];show 1<=_;decide)
 show wpAny _ _ _ _ _ _
 generalize hh2:(h.push { cls:= .type "tuple",data:= .seq [v].toArray}).push { cls:= .ref C,data:= .fields #[.ref h.objs.size,.none,.none,.none,.bool false,.none]}=h2
 have hC₁:h2.get? C=some (excClassObj nm q C N bs (.ref D::B9) hdct sn sub ab col dd k0 k1 k2 k3 k5 "Exception.__new__"):=by
  rw[<-hh2];exact Dx _ (Dx _ hC)
 have hget:h2.get? (h.objs.size+1)=some { cls:= .ref C,data:= .fields #[.ref h.objs.size,.none,.none,.none,.bool false,.none]}:=by
  rw[<-hh2];exact Heap.get?_push_at (by simp only [Heap.size_push]) rfl
 have X2:K.In h2:=by rw[<-hh2];exact X.keeps fun b o e=>Dx _ (Dx _ e)
 have hcC:(Value.ref C::Value.ref D::B9).contains (.ref C)=true:=by simp
 unfold isInstance
 repeat (first | with_reducible refine wpAny_loadPart_at hget ?_ | (with_reducible refine wpAny_isSubtype_exc hC₁ ?_;rw[hcC]) | wp_step)
 show wpAny _ _ (typeLookup (.ref C) _) _ _ _
 refine(looks_findIn X2 hi).here (s:=⟨h2,g,d,t,os⟩) ?_
 refine wpAny_holding (As ((bind_fn X2 _ (beq_iff_eq.mp hf)).here (s:=⟨h2,g,d,t,os⟩) ?_))
 refine As (wpAny_mono (hq h2 hh2.symm) (fun r s' hr=> ?_) fun J J e=>e)
 obtain⟨rfl,hr⟩:=hr
 refine BH ?_
 dsimp only
 rw[if_neg (by decide)]
 exact BH hr
theorem Iq(F:ExcBaseFacts "Exception" "Exception.__new__" initId B9)(X:K.In h)(T:OwnTail h B9 (.ref D::B9)){fI:Addr}{v:Value}{Q:Value->Shared->Prop}
  (hC:h.get? C=some (excClassObj nm q C N bs (.ref D::B9) hdct sn sub ab col dd k0 k1 k2 k3 k5 "Exception.__new__"))
  (hi:findIn K (.ref C) "__init__"=some (some (.ref fI))) (hf:isFn K (.ref fI)=true)
  (hq:∀h2:Heap,h2=(h.push { cls:= .type "tuple",data:= .seq [v].toArray}).push { cls:= .ref C,data:= .fields #[.ref h.objs.size,.none,.none,.none,.bool false,.none]}->
   wpAny (model prog w) (A.under (.builtin "type.__call__" ⟨[.ref C,v],[]⟩)) (call (.ref fI) [.ref (h.objs.size+1),v]) (fun r s'=>r=.none/\Q (.ref (h.objs.size+1)) s') E ⟨h2,g,d,t,os⟩):
  wpAny (model prog w) A (call (.ref C) [v]) Q E ⟨h,g,d,t,os⟩:=by
 have f1:=tc_lookup
 have f2:=tc_bind (.ref C)
 have hT:(⟨h,g,d,t,os⟩:Shared).TypeIs (.ref C) "type":=⟨_,hC,rfl⟩
 refine wpAny_call (codeAny_of_tree ?_)
 show wpAny _ _ (callAny (.ref C) _) _ _ _
 repeat (any_goals (first | assumption | with_reducible refine wpAny_loadPart_at hC ?_ | wp_step))
 refine⟨rfl,?_⟩
 refine codeAny_call_builtin_at (Code.quiet_builtin _ (by decide+kernel)) entry_typeCall (wpAny_check_type_call_sub hC (Jv (T:=T) F X hC hi hf fun h2 e2=> ?_))
 exact hq h2 e2
end
section
variable{prog:Program}{w:World}{K:Frag}{C D e:Addr}{cd:ClassData}{vs:Array Value}
theorem UT{name:Str}{v:Value}{Q:Unit->Shared->Prop}(X:K.In s.heap)(he:s.heap.get? e=some { cls:= .ref C,data:= .fields vs})(hc:clsIn K C=some cd)(hm:cd.mro=.ref C:: .ref D::B9)(hdct:cd.hasDict=true)
  (hs:findIn K (.ref C) "__setattr__"=some (some (.builtin "object.__setattr__"))) (ht:takerIn K C name=some none)
  (h:∀h' tk,h'.get? e=some { cls:= .ref C,dict:=some s.heap.objs.size,data:= .fields vs}->(∃t n,h'.get? s.heap.objs.size=some (W.dictOf [⟨PyData.keyHash w.params name,.str name t,v⟩] n))->
   (∀b o,b≠e->s.heap.get? b=some o->h'.get? b=some o)->Q () { s with heap:=h',toks:=tk}):
  wpAny (model prog w) A (setAttr (.ref e) name v) Q E s:=by
 have I:InstAt s.heap e { cls:= .ref C,data:= .fields vs} C none:=⟨he,rfl,rfl,trivial⟩
 refine set_plain X I hs ?_
 have SF:=PySem.F.store_object
 have sub:Looks (model prog w) s.heap (isInstance (.ref e) (.type "object")) true:=I.type.andThen (looks_mroIn X (by unfold mroIn;rw[hc,Option.bind_some,hm];rfl))
 refine codeAny_call_builtin SF.slot.plain SF.entry (@check_slot (model prog w) _ _ _ "object.__setattr__" "object" "__setattr__" (.ref e) [.str name s.toks,v] [] _ SF.kind SF.split sub (SF.args (.ref e) (.str name s.toks) v) ?_)
 obtain⟨attr,ha,hr⟩:=Option.bind_eq_some_iff.mp ht
 have hmr:Looks (model prog w) s.heap (mroOf (.ref C)) cd.mro:=(looks_clsIn X hc).andThen .now
 have L3:Looks (model prog w) s.heap (Builtin.ObjectAttr.storeTaker? attr) none:=by
  cases attr with
  | none=>exact .now
  | some a=>
   obtain⟨b,hb,hb2⟩:=Option.map_eq_some_iff.mp hr
   refine(looks_takesIn X hb).andThen ?_
   cases b with
   | true=>cases hb2
   | false=>exact .now
 rw[osa_eq,refuse_eq]
 refine As (As (I.type.here (s:={ s with toks:=s.toks+1}) (As (hmr.here (s:={ s with toks:=s.toks+1}) ?_))))
 rw[hm,refuseLoop_ref,refuseLoop_ref,PySem.F.store_Exception.passes]
 refine BH (As (I.type.here (s:={ s with toks:=s.toks+1}) (As ((looks_findIn X ha).here (s:={ s with toks:=s.toks+1}) (As (L3.here (s:={ s with toks:=s.toks+1}) ?_))))))
 dsimp only
 have Ef:=Heap.lt_size he
 have JK:e≠s.heap.objs.size:=Nat.ne_of_lt Ef
 refine As (BH (As (As (wpAny_loadPart (s:={ s with toks:=s.toks+1}) he (As ((looks_clsIn X hc).here (s:={ s with toks:=s.toks+1}) ?_))))))
 rw[hdct,if_neg (by decide)]
 show wpAny _ _ (PySem.alloc { cls:= .type "dict",data:= .dict #[]} >>= fun d=>(update e fun o=>{ cls:=o.cls,dict:=some d,data:=o.data,slots:=o.slots}) >>= fun J=>dictMade (.ref C) e d) _ _ _
 refine As (wpAny_alloc (As (wpAny_update (Dx _ he) ?_)))
 dsimp only
 generalize hh1:(s.heap.push { cls:= .type "dict",data:= .dict #[]}).update e (fun o=>{ cls:=o.cls,dict:=some s.heap.objs.size,data:=o.data,slots:=o.slots})=h1
 have hd1:h1.get? s.heap.objs.size=some (W.dictOf [] 0):=by
  rw[<-hh1]
  exact(Heap.get?_update_ne _ _ _ _ (Ne.symm JK)).trans (Heap.get?_push_size _ rfl)
 have he1:h1.get? e=some { cls:= .ref C,dict:=some s.heap.objs.size,data:= .fields vs}:=by
  rw[<-hh1]
  exact Heap.get?_update_self _ (Dx _ he) rfl
 have keep:∀b o,b≠e->s.heap.get? b=some o->h1.get? b=some o:=fun b o hb q=>by
  rw[<-hh1]
  exact(Heap.get?_update_ne _ _ _ _ hb).trans (Dx _ q)
 refine BH (As (BH (As ?_)))
 unfold nsSet
 refine As (As (wpAny_askSetting (BH (As (wpAny_mkText (As (wpAny_loadPart hd1 ?_)))))))
 show wpAny _ _ (if aRefKeyMayBeTheName name #[]=true then _ else updatePart s.heap.objs.size (some (.str name 0)) (Obj.putName name (PyData.keyHash w.params name) (.str name (s.toks+1)) v)) _ _ _
 rw[aRefKeyMayBeTheName_at,if_neg (by simp)]
 refine wpAny_updatePart hd1 ?_
 have hd2:(h1.update s.heap.objs.size (Obj.putName name (PyData.keyHash w.params name) (.str name (s.toks+1)) v)).get? s.heap.objs.size=some (W.dictOf (putL name (PyData.keyHash w.params name) (.str name (s.toks+1)) v []) (putN name [] 0)):=by
  have:=Heap.get?_update_self (Obj.putName name (PyData.keyHash w.params name) (.str name (s.toks+1)) v) hd1 (by rw[putName_dict];rfl)
  rw[putName_dict]at this
  exact this
 refine As (wpAny_lookBehind (s:={ s with heap:=h1.update s.heap.objs.size (Obj.putName name (PyData.keyHash w.params name) (.str name (s.toks+1)) v),toks:=s.toks+1+1}) hd2 (by
  refine pastItsLine_dict ?_
  rw[sizeLine_eq]
  show(putL name (PyData.keyHash w.params name) (.str name (s.toks+1)) v []).toArray.size<=_
  unfold putL
  simp) ?_)
 refine BH (h _ _ ?_ ⟨_,_,hd2⟩ fun b o hb q=> ?_)
 .exact (Heap.get?_update_ne _ _ _ _ JK).trans he1
 .exact (Heap.get?_update_ne _ _ _ _ (Nat.ne_of_lt (Heap.lt_size q))).trans (keep b o hb q)
end
section
variable{prog:Program}{w:World}{K:Frag}{C D e:Addr}{cd:ClassData}{ox:Obj}{es:List DictEntry}
theorem T6{name:Str}{v:Value}{ex:Bool}{attr:Option Value}{Q:Value->Shared->Prop}(X:K.In s.heap)(I:InstAt s.heap e ox C (some (W.dictOf es n)))(hc:clsIn K C=some cd)(hm:cd.mro=.ref C:: .ref D::B9)
  (hga:findIn K (.ref C) "__getattribute__"=some (some (.builtin "BaseException.__getattribute__"))) (hgt:findIn K (.ref C) "__getattr__"=some none) (hh:hasDictIn K C=true) (ha:findIn K (.ref C) name=some attr) (hn:noGet K attr=true) (hl:getL name es=some (some v)) (hv:handedIn v=true)
  (h:Q v { s with toks:=s.toks+1}):wpAny (model prog w) A (getAttr (.ref e) name ex) Q E s:=by
 obtain⟨hp,g,d,t,os⟩:=s
 have GA:=PySem.F.attr_Exception.ga
 have f3:=GA.bind (.ref e)
 have hf:findObj K C (some (W.dictOf es n)) name=some (.value v):=findObj_own hh ha hn hl
 have hk:builtinKind "BaseException.__getattribute__"=some .slot:=by decide+kernel
 have hsplit:splitId "BaseException.__getattribute__"=some ("BaseException","__getattribute__"):=by decide+kernel
 have sub:Looks (model prog w) hp (isInstance (.ref e) (.type "BaseException")) true:=I.type.andThen (looks_mroIn X (by unfold mroIn;rw[hc,Option.bind_some,hm];rfl))
 have hx2:(Value.builtin "BaseException.__getattribute__"==Value.builtin "object.__getattribute__")=false:=by decide+kernel
 have hx0:(ex&&onTheHeap (Value.builtin "BaseException.__getattribute__"))=false:=by cases ex<;>rfl
 unfold getAttr getAttrBy
 refine As (wpAny_mkText (wpAny_holding (As (I.type.at (As ((looks_findIn X hga).at ?_))))))
 dsimp only
 rw[hx2,Bool.and_false,if_neg (by decide)]
 unfold getAttrByItsOwn hookBefore
 rw[if_pos (show onTheHeap (.ref C)=true from rfl)]
 refine As ((looks_findIn X hgt).at ?_)
 unfold callGetattribute
 rw[hx0,if_neg (by decide)]
 unfold boundAndCalled
 refine As (wpAny_attempt (wpAny_holding (As (wpAny_of_eq f3 (wpAny_call (codeAny_call_builtin GA.plain PySem.F.entry_bexc_ga (@check_slot (model prog w) _ _ _ "BaseException.__getattribute__" "BaseException" "__getattribute__" (.ref e) [.str name t] [] _ hk hsplit sub (PySem.F.args_bexc_ga (.ref e) (.str name t)) ?_)))))))
 have L0:=I.type (M:=model prog w)
 have L1:=looks_find (M:=model prog w) X I hf
 unfold Builtin.«object.__getattribute__»
 refine As (BH (As (BH (As (L0.at (As (L1.at ?_)))))))
 refine BH ?_
 show wpAny _ _ (handedOut v) _ _ _
 rw[handedOut_of hv];exact BH h
end
inductive R1(K:Frag)(C D:Addr):Prop
 | mk (nm q N bs hdct sn sub ab col dd k0 k1 k2 k3 k5:_) (h0:K.lookup C=some (excClassObj nm q C N bs (.ref D::B9) hdct sn sub ab col dd k0 k1 k2 k3 k5 "Exception.__new__")):R1 K C D
inductive N4(K:Frag)(fI:Addr):Prop
 | mk (oc od osl name qual params scope dV kV doc pm an cdv ct p1 p2 p3 p4:_) (h0:K.lookup fI=some ⟨oc,od,.func (fnX name qual params [.Assign [.Attribute (.Name "self" p1) "message" p2] (.Name "message" p3) p4] scope [] dV kV doc pm an cdv ct),osl⟩) (h1:codeIn K cdv qual=true) (h2:Q9 scope ["self","message"]) (h3:D5 scope.names "self"=true) (h4:D5 scope.names "message"=true) (h5:∀s a b,K.In s.heap->BindsTo s (fnX name qual params [.Assign [.Attribute (.Name "self" p1) "message" p2] (.Name "message" p3) p4] scope [] dV kV doc pm an cdv ct) ⟨[a,b],[]⟩ [("self",a),("message",b)]):N4 K fI
structure UE(U:Un)(C D fI:Addr)(cd:ClassData):Prop where
 name:nsIn U.K mainGlobals "Refusal"=some (some (.ref C))
 keep:keepIn U.K (.ref C)=true
 obj:R1 U.K C D
 tail:tailIn U.K B9 (.ref D::B9)=true
 init:findIn U.K (.ref C) "__init__"=some (some (.ref fI))
 isfn:isFn U.K (.ref fI)=true
 fn:N4 U.K fI
 cls:clsIn U.K C=some cd
 mro:cd.mro=.ref C:: .ref D::B9
 hd:cd.hasDict=true
 seta:findIn U.K (.ref C) "__setattr__"=some (some (.builtin "object.__setattr__"))
 taker:takerIn U.K C "message"=some none
 hga:findIn U.K (.ref C) "__getattribute__"=some (some (.builtin "BaseException.__getattribute__"))
 hgt:findIn U.K (.ref C) "__getattr__"=some none
 hmsg:findIn U.K (.ref C) "message"=some none
section
variable{Cc:Iv Fn}{C D fI:Addr}{cd:ClassData}
theorem P3{X:Fx}{ρ:A8}{H:MH}{h h':Heap}{a:Addr}{o o':Obj}{pre post:List (Addr×Obj)}(x:AL U X ρ H h)(e:X.ex=pre++(a,o)::post)(hs:∀b o,b≠a->h.get? b=some o->h'.get? b=some o)(ho:h'.get? a=some o'):
  AL U (X.withEx (pre++(a,o')::post)) ρ H h':=by
 obtain⟨F,ps,p,N,D,lo⟩:=x
 have w:X.px++ps.flatten=(X.own++pre)++(a,o)::(post++ps.flatten):=by simp[Fx.px,e]
 rw[w]at N D
 obtain⟨h1,h2⟩:(∀q ∈ X.own++pre,q.1≠a)/\∀q ∈ post++ps.flatten,q.1≠a:=by
  unfold BC at D
  rw[List.map_append,List.map_cons]at D
  have d2:=(List.nodup_append.mp D)
  refine⟨fun q hq=>d2.2.2 q.1 (List.mem_map_of_mem hq) a (.head _),fun q hq e=> ?_⟩
  have:=(List.nodup_cons.mp d2.2.1).1
  exact this (e▸List.mem_map_of_mem (f:=(·.1)) hq)
 have z:=N (a,o) (C9 _ (.head _))
 have hL:X.L≠a:=Ne.symm z.2.1
 have w2:(X.withEx (pre++(a,o')::post)).px++ps.flatten=(X.own++pre)++(a,o')::(post++ps.flatten):=by simp[Fx.px]
 refine⟨⟨F.ns.extBut (fun b o hb q=>hs b o hb q) hL,fun b o q=>hs b o (fun q2=> ?_) (F.keep b o q),F.above⟩,ps,p,?_,?_,lo⟩
 .subst q2;have:=z.2.2;dsimp only at q;rw[q]at this;cases this
 .rw [w2]
  intro q hq
  rcases List.mem_append.mp hq with hq | hq
  .have y:=N q (B1 _ hq)
   exact⟨hs _ _ (h1 q hq) y.1,y.2⟩
  .rcases List.mem_cons.mp hq with rfl | hq
   .exact ⟨ho,z.2⟩
   .have y:=N q (C9 _ (.tail _ hq))
    exact⟨hs _ _ (h2 q hq) y.1,y.2⟩
 .rw [w2]
  exact Hu (o':=o') D
theorem N3{Q:Flow->Shared->Prop}{nm q:Str}{N:Addr}{bs:List Value}{hdct:Bool}{sn:List Str}{sub:List Value}{ab:Bool}{col:Option Bool}{dd:Option Addr}{k0 k1 k2 k3 k5:Option Value}{M:Model}{x:Sem Value}(hh:A.handled=none)
  (h:wpAny M A x (fun v s₁=>∃e t d,v=.ref e/\s₁.heap.get? C=some (excClassObj nm q C N bs (.ref D::B9) hdct sn sub ab col dd k0 k1 k2 k3 k5 "Exception.__new__")/\
   s₁.heap.get? e=some { cls:= .ref C,dict:=some d,data:= .fields #[.ref t,.none,.none,.none,.bool false,.none]}/\E (.ref e) s₁) E s):
  wpAny M A (raiseStmt env (some x) none) Q E s:=by
 have hcB:(Value.ref C::Value.ref D::B9).contains (.type "BaseException")=true:=rfl
 unfold raiseStmt
 refine As (wpAny_mono h (fun v s₁ h₁=> ?_) fun J J x=>x)
 obtain⟨e,t,d,rfl,hC,he,hE⟩:=h₁
 obtain⟨hp,g,dr,tk,os⟩:=s₁
 repeat (first | with_reducible refine wpAny_loadPart_at he ?_ | with_reducible refine wpAny_loadPart_at hC ?_ | (with_reducible refine wpAny_isSubtype_exc hC ?_;rw[hcB]) | wp_step)
 exact wpAny_raiseNew_none hh hE
end
section
variable{Cc:Iv Fn}{cpos:Pos}{C D fI:Addr}{cd:ClassData}
theorem VE{m:Nat}{e d:Addr}{t:Value}{k:Int}{u v:Tok}{j:Nat}(cx:Cx U A X Ad n)
  (x:AL U (X.withEx ((e,{ cls:= .ref C,dict:=some d,data:= .fields #[t,.none,.none,.none,.bool false,.none]})::X.ex)) ρ H h')
  (hd:h'.get? d=some (W.dictOf [⟨k,.str "message" u,.str (wd m) v⟩] j)) (hde:d≠e) (hfr:∀env ∈ X.l,∀b,env.frame=some b->b≠d):
  Sv U (.ref C) X m ρ H e h':=by
 obtain⟨F,ps,p,N,D,lo⟩:=x
 have w:(X.withEx ((e,{ cls:= .ref C,dict:=some d,data:= .fields #[t,.none,.none,.none,.bool false,.none]})::X.ex)).px++ps.flatten=X.own++(e,{ cls:= .ref C,dict:=some d,data:= .fields #[t,.none,.none,.none,.bool false,.none]})::(X.ex++ps.flatten):=by simp[Fx.px]
 rw[w]at N D
 have sub:∀q ∈ X.px++ps.flatten,q ∈ X.own++(e,({ cls:= .ref C,dict:=some d,data:= .fields #[t,.none,.none,.none,.bool false,.none]}:Obj))::(X.ex++ps.flatten):=fun q hq=>by
  simp only [Fx.px,List.append_assoc,List.mem_append,List.mem_cons]at hq ⊢
  rcases hq with h | h | h
  .exact .inl h
  .exact .inr (.inr (.inl h))
  .exact .inr (.inr (.inr h))
 have D2:BC (X.px++ps.flatten):=by
  unfold BC at D ⊢
  refine D.sublist (List.Sublist.map _ ?_)
  rw[Fx.px,List.append_assoc]
  exact(List.sublist_cons_self _ _).append_left _
 have ne:∀q ∈ X.px++ps.flatten,q.1≠e:=by
  have pm:=BP (List.perm_middle (l₁:=X.own) (a:=(e,({ cls:= .ref C,dict:=some d,data:= .fields #[t,.none,.none,.none,.bool false,.none]}:Obj))) (l₂:=X.ex++ps.flatten)) D
  unfold BC at pm
  rw[List.map_cons,List.nodup_cons]at pm
  intro q hq z
  refine pm.1 (List.mem_map.mpr ⟨q,?_,z⟩)
  rw[<-List.append_assoc]
  exact hq
 have he:=(N _ (C9 _ (.head _))).1
 have gE:=(N _ (C9 _ (.head _))).2.2
 dsimp only at he gE
 obtain⟨A₀,outer,B,hl⟩:=cx.B
 have K':=pushX B F cx.hf cx.hk
 rw[<-hl]at K'
 let as:=e::X.l.filterMap (·.frame)
 have inl:∀env ∈ X.l,∀b,env.frame=some b->b ∈ as:=fun env he b hb=> .tail _ (List.mem_filterMap.mpr ⟨env,he,hb⟩)
 have baseE:X.base.get? e=none:=fresh_of_stays B.stays gE
 have hidden:∀b o,h'.get? b=some o->b ∉ as->(hideAll h' as).get? b=some o:=fun b o hb hn=>hideAll_get _ hb hn
 refine⟨ps,h',p,D2,lo,⟨hideAll h' as,d,_,j,v,fun b o q=> ?_,fun q hq=>⟨?_,fresh_of_stays B.stays (N q (sub q hq)).2.2⟩,fun b o q=>of_hideAll _ q,hideAll_none _ (.head _),funFrames_hide K'.frames inl,⟨_,_,he,rfl,rfl,rfl,by simp,.inl rfl⟩,hidden _ _ hd ?_,by unfold getL;simp[Value.isStr]⟩,F,Heap.UpToSlots.refl _⟩
 .refine hidden _ _ (K'.stays b o q) fun hm=> ?_
  rcases List.mem_cons.mp hm with rfl | hm
  .rw [baseE]at q;cases q
  .rw [(K'.frames.mem hm).1]at q;cases q
 .have JK:=ne q hq
  have N':=N q (sub q hq)
  refine hidden _ _ N'.1 fun hm=> ?_
  rcases List.mem_cons.mp hm with z | hm
  .exact JK z
  .obtain ⟨env,hen,hf⟩:=List.mem_filterMap.mp hm
   rw[hl]at hen
   rcases List.mem_cons.mp hen with rfl | hen
   .rw [cx.hf]at hf
    exact N'.2.1 (Option.some.inj hf).symm
   .obtain ⟨o,ho,_⟩:=(B.frames.mem (List.mem_filterMap.mpr ⟨env,hen,hf⟩)).2
    rw[N'.2.2]at ho;cases ho
 .intro hm
  rcases List.mem_cons.mp hm with z | hm
  .exact hde z
  .obtain ⟨env,hen,hf⟩:=List.mem_filterMap.mp hm
   exact hfr env hen d hf rfl
theorem Qx(ue:UE U C D fI cd)(rm:DI A n 3){m:Nat}{k:Nat}{p1 p2:Pos}(hn:Df ns "Refusal"=true):
  SS U (.ref C) Cc A Ad env n ns Γ (.raise m) (.Raise (some (.Call (.Name "Refusal" p1) [.Constant (.str (wd m)) k p2] [] cpos)) none pos):=by
 intro X ρ H s vs Q E sx x eo hp
 have cx:=sx.cx
 obtain⟨nm,q,N,bs,hdct,sn,sub,ab,col,dd,k0,k1,k2,k3,k5,hobj⟩:=ue.obj
 rw[arm_exec_Raise]
 refine As (wpAny_standAt ?_)
 refine N3 (C:=C) (D:=D) (nm:=nm) (q:=q) (N:=N) (bs:=bs) (hdct:=hdct) (sn:=sn) (sub:=sub) (ab:=ab) (col:=col) (dd:=dd) (k0:=k0) (k1:=k1) (k2:=k2) (k3:=k3) (k5:=k5) cx.hh ?_
 refine As ?_
 refine wpAny_mono (Q:=fun v s₁=>∃e t d,v=.ref e/\s₁.heap.get? C=some (excClassObj nm q C N bs (.ref D::B9) hdct sn sub ab col dd k0 k1 k2 k3 k5 "Exception.__new__")/\
   s₁.heap.get? e=some { cls:= .ref C,dict:=some d,data:= .fields #[.ref t,.none,.none,.none,.bool false,.none]}/\E (.ref e) s₁) ?_ (fun v s' hv=>As (wpAny_standAt (BH hv))) fun J J e=>e
 refine By (Dw sx.ek cx.gf x hn ue.name ?_)
 refine Au (P:=U.K.In) rfl (fun h X=>keeps_K ue.keep h X) ?_
 refine spliced_more (wpAny_Constant_str ?_) (AH rfl)
 have KI:=cx.gf.K.keeps x.fr.keep
 refine wpAny_items_nil ⟨KI,?_⟩
 obtain⟨hp0,gg,dr,tk0,os⟩:=s
 refine Iq (F:=PySem.F.excBase_Exception) (X:=KI) (tail_of_in KI ue.tail) (KI _ _ hobj) ue.init ue.isfn fun h2 e2=> ?_
 dsimp only at x KI
 have xa:=FS.addEx (a:=hp0.objs.size) (o:={ cls:= .type "tuple",data:= .seq [Value.str (wd m) tk0].toArray}) x (h':=hp0.push { cls:= .type "tuple",data:= .seq [Value.str (wd m) tk0].toArray}) (fun b o e=>Dx _ e) (Heap.get?_push_size _ rfl) (Nat.le_refl _)
 have xb:=FS.addEx (a:=hp0.objs.size+1) (o:={ cls:= .ref C,data:= .fields #[.ref hp0.objs.size,.none,.none,.none,.bool false,.none]}) xa (h':=h2) (fun b o e=>by rw[e2];exact Dx _ e) (by rw[e2];exact Heap.get?_push_at (by simp only [Heap.size_push]) rfl) (by rw[Heap.size_push];exact Nat.le_refl _)
 have KI2:U.K.In h2:=by rw[e2];exact KI.keeps fun b o e=>Dx _ (Dx _ e)
 obtain⟨oc,od,osl,name,qual,params,scope,dV,kV,doc,pm,an,cdv,ct,q1,q2,q3,q4,hfn,hcd,sc,on1,on2,bind⟩:=ue.fn
 have rm2:DI A n 1:=⟨by have:=rm.1;exact dA ‹_› (by rfl),by have:=rm.2;exact dA ‹_› (by rfl)⟩
 have cxu:=cx.under rm2 C [Value.str (wd m) tk0]
 have rmu:DI (A.under (.builtin "type.__call__" ⟨[.ref C,.str (wd m) tk0],[]⟩)) n (1+1):=by
  have:=rm
  unfold DI at this ⊢
  rw[depth_under_make,units_under_make]
  exact⟨dF (And.left ‹_›) (by rfl),dF (And.right ‹_›) (by rfl)⟩
 have e0:hp0.objs.size+1≠hp0.objs.size:=by exact fun e=>e7 e
 refine wpAny_call (V1 (k:=1) (X:=X.withEx ((hp0.objs.size+1,{ cls:= .ref C,data:= .fields #[.ref hp0.objs.size,.none,.none,.none,.bool false,.none]})::(hp0.objs.size,{ cls:= .type "tuple",data:= .seq [Value.str (wd m) tk0].toArray})::X.ex)) (xc:= .ref C) (cxu.ex _) rmu (s:=⟨h2,gg,dr,tk0+1,os⟩) (binds:=[("self",.ref (hp0.objs.size+1)),("message",.str (wd m) tk0)]) xb sc (KI2 _ _ hfn) rfl (codeRec_of KI2 hcd) (bind _ _ _ KI2) fun X' h₁ tk Ai B8 hex hbase hl rm3 sx' x' ld=> ?_)
 have ek':=sx'.ek
 refine wpAny_execs_cons (plainObj_wpAny_Assign_Attribute ?_ (by rfl))
 refine Ju ek' x' on2 (ld "message" _ rfl) ?_
 refine Ju ek' x' on1 (ld "self" _ rfl) ?_
 have he1:h₁.get? (hp0.objs.size+1)=some { cls:= .ref C,data:= .fields #[.ref hp0.objs.size,.none,.none,.none,.bool false,.none]}:=x'.exGet (p:=(hp0.objs.size+1,_)) (by rw[hex];exact C9 _ (.head _))
 have KI1:U.K.In h₁:=sx'.cx.gf.K.keeps x'.fr.keep
 refine UT (s:=⟨h₁,gg,dr,tk,os⟩) (D:=D) KI1 he1 ue.cls ue.mro ue.hd ue.seta ue.taker fun h3 tk3 g1 g2 g3=> ?_
 refine wpAny_execs_nil ?_
 obtain⟨t3,n3,hd3⟩:=g2
 have x3:=P3 (X:=X') (pre:=X.own) (post:=(hp0.objs.size,{ cls:= .type "tuple",data:= .seq [Value.str (wd m) tk0].toArray})::X.ex) x' (by rw[hex]) g3 g1
 refine⟨_,(hp0.objs.size+1,{ cls:= .ref C,dict:=some h₁.objs.size,data:= .fields #[.ref hp0.objs.size,.none,.none,.none,.bool false,.none]})::(hp0.objs.size,{ cls:= .type "tuple",data:= .seq [Value.str (wd m) tk0].toArray})::X.ex,ρ,H,.none,?_,?_,x3,rfl,fun FX=>⟨rfl,hp0.objs.size+1,hp0.objs.size,h₁.objs.size,rfl,?_,g1,?_⟩⟩
 .rfl
 .exact List.Sublist.refl _
 .have:X.G.get? C=some _:=cx.gf.K _ _ hobj
  exact FX.fr.keep _ _ this
 .refine hp X ρ (hp0.objs.size+1) h3 tk3 .refl (BE _) ?_
  refine VE (h':=h3) (d:=h₁.objs.size) cx (FS.dropEx0 (X:=X) (FS.swapEx (X:=X) FX) |> fun z=>z) hd3 (Nat.ne_of_gt (Heap.lt_size he1)) (fun env he b hb hbd=> ?_)
  obtain⟨A₁,outer₁,B₁,hl₁⟩:=sx'.cx.B
  rw[hl]at hl₁
  have e3:outer₁=X.l:=(List.cons.inj hl₁).2.symm
  rw[e3]at B₁
  obtain⟨o,ho,_⟩:=(B₁.frames.mem (List.mem_filterMap.mpr ⟨env,he,hb⟩)).2
  have:=Heap.lt_size (x'.fr.keep _ _ ho)
  rw[hbd]at this
  exact absurd this (Nat.lt_irrefl _)
end
theorem nf{p:Prop}(h:false=true):p:=Bool.noConfusion h
theorem Ag{a b:Bool}(h:(a&&b)=true):a=true:=((DK a b).mp h).1
theorem Am{a b:Bool}(h:(a&&b)=true):b=true:=((DK a b).mp h).2
theorem bq{α:Type}[BEq α][LawfulBEq α]{P:α->Prop}{x y:α}(h:(x==y)=true)(p:P y):P x:=eq_of_beq h▸p
theorem nt{b:Bool}(h:(!b)=true):b=false:=by cases b with | false=>rfl | true=>cases h
noncomputable def K5(e:Expr)(k:BoolOp->List Expr->Pos->Bool):Bool:= @Expr.casesOn (fun J=>Bool) e k (fun J J J=>false) (fun J J J J=>false) (fun J J J=>false) (fun J J J J=>false) (fun J J J J=>false) (fun J J J=>false) (fun J J J=>false) (fun J J J J=>false) (fun J J J J=>false) (fun J J J J J=>false) (fun J J J J=>false) (fun J J=>false) (fun J J=>false) (fun J J=>false) (fun J J J J=>false) (fun J J J J=>false) (fun J J J J=>false) (fun J J=>false) (fun J J J=>false) (fun J J J=>false) (fun J J J=>false) (fun J J=>false) (fun J J=>false) (fun J J=>false) (fun J J J=>false) (fun J J J J=>false)
theorem NF{P:Expr->Prop}{e:Expr}{k:BoolOp->List Expr->Pos->Bool}(h:K5 e k=true)(f:∀a0 a1 a2,k a0 a1 a2=true->P (.BoolOp a0 a1 a2)):P e:= @Expr.casesOn (fun e=>K5 e k=true->P e) e f (fun J J J=>nf) (fun J J J J=>nf) (fun J J J=>nf) (fun J J J J=>nf) (fun J J J J=>nf) (fun J J J=>nf) (fun J J J=>nf) (fun J J J J=>nf) (fun J J J J=>nf) (fun J J J J J=>nf) (fun J J J J=>nf) (fun J J=>nf) (fun J J=>nf) (fun J J=>nf) (fun J J J J=>nf) (fun J J J J=>nf) (fun J J J J=>nf) (fun J J=>nf) (fun J J J=>nf) (fun J J J=>nf) (fun J J J=>nf) (fun J J=>nf) (fun J J=>nf) (fun J J=>nf) (fun J J J=>nf) (fun J J J J=>nf) h
noncomputable def Ni(e:Expr)(k:Expr->Operator->Expr->Pos->Bool):Bool:= @Expr.casesOn (fun J=>Bool) e (fun J J J=>false) (fun J J J=>false) k (fun J J J=>false) (fun J J J J=>false) (fun J J J J=>false) (fun J J J=>false) (fun J J J=>false) (fun J J J J=>false) (fun J J J J=>false) (fun J J J J J=>false) (fun J J J J=>false) (fun J J=>false) (fun J J=>false) (fun J J=>false) (fun J J J J=>false) (fun J J J J=>false) (fun J J J J=>false) (fun J J=>false) (fun J J J=>false) (fun J J J=>false) (fun J J J=>false) (fun J J=>false) (fun J J=>false) (fun J J=>false) (fun J J J=>false) (fun J J J J=>false)
theorem Pw{P:Expr->Prop}{e:Expr}{k:Expr->Operator->Expr->Pos->Bool}(h:Ni e k=true)(f:∀a0 a1 a2 a3,k a0 a1 a2 a3=true->P (.BinOp a0 a1 a2 a3)):P e:= @Expr.casesOn (fun e=>Ni e k=true->P e) e (fun J J J=>nf) (fun J J J=>nf) f (fun J J J=>nf) (fun J J J J=>nf) (fun J J J J=>nf) (fun J J J=>nf) (fun J J J=>nf) (fun J J J J=>nf) (fun J J J J=>nf) (fun J J J J J=>nf) (fun J J J J=>nf) (fun J J=>nf) (fun J J=>nf) (fun J J=>nf) (fun J J J J=>nf) (fun J J J J=>nf) (fun J J J J=>nf) (fun J J=>nf) (fun J J J=>nf) (fun J J J=>nf) (fun J J J=>nf) (fun J J=>nf) (fun J J=>nf) (fun J J=>nf) (fun J J J=>nf) (fun J J J J=>nf) h
noncomputable def GG(e:Expr)(k:UnaryOp->Expr->Pos->Bool):Bool:= @Expr.casesOn (fun J=>Bool) e (fun J J J=>false) (fun J J J=>false) (fun J J J J=>false) k (fun J J J J=>false) (fun J J J J=>false) (fun J J J=>false) (fun J J J=>false) (fun J J J J=>false) (fun J J J J=>false) (fun J J J J J=>false) (fun J J J J=>false) (fun J J=>false) (fun J J=>false) (fun J J=>false) (fun J J J J=>false) (fun J J J J=>false) (fun J J J J=>false) (fun J J=>false) (fun J J J=>false) (fun J J J=>false) (fun J J J=>false) (fun J J=>false) (fun J J=>false) (fun J J=>false) (fun J J J=>false) (fun J J J J=>false)
theorem Hy{P:Expr->Prop}{e:Expr}{k:UnaryOp->Expr->Pos->Bool}(h:GG e k=true)(f:∀a0 a1 a2,k a0 a1 a2=true->P (.UnaryOp a0 a1 a2)):P e:= @Expr.casesOn (fun e=>GG e k=true->P e) e (fun J J J=>nf) (fun J J J=>nf) (fun J J J J=>nf) f (fun J J J J=>nf) (fun J J J J=>nf) (fun J J J=>nf) (fun J J J=>nf) (fun J J J J=>nf) (fun J J J J=>nf) (fun J J J J J=>nf) (fun J J J J=>nf) (fun J J=>nf) (fun J J=>nf) (fun J J=>nf) (fun J J J J=>nf) (fun J J J J=>nf) (fun J J J J=>nf) (fun J J=>nf) (fun J J J=>nf) (fun J J J=>nf) (fun J J J=>nf) (fun J J=>nf) (fun J J=>nf) (fun J J=>nf) (fun J J J=>nf) (fun J J J J=>nf) h
noncomputable def KZ(e:Expr)(k:Arguments->Expr->Scope->Pos->Bool):Bool:= @Expr.casesOn (fun J=>Bool) e (fun J J J=>false) (fun J J J=>false) (fun J J J J=>false) (fun J J J=>false) k (fun J J J J=>false) (fun J J J=>false) (fun J J J=>false) (fun J J J J=>false) (fun J J J J=>false) (fun J J J J J=>false) (fun J J J J=>false) (fun J J=>false) (fun J J=>false) (fun J J=>false) (fun J J J J=>false) (fun J J J J=>false) (fun J J J J=>false) (fun J J=>false) (fun J J J=>false) (fun J J J=>false) (fun J J J=>false) (fun J J=>false) (fun J J=>false) (fun J J=>false) (fun J J J=>false) (fun J J J J=>false)
theorem Nf{P:Expr->Prop}{e:Expr}{k:Arguments->Expr->Scope->Pos->Bool}(h:KZ e k=true)(f:∀a0 a1 a2 a3,k a0 a1 a2 a3=true->P (.Lambda a0 a1 a2 a3)):P e:= @Expr.casesOn (fun e=>KZ e k=true->P e) e (fun J J J=>nf) (fun J J J=>nf) (fun J J J J=>nf) (fun J J J=>nf) f (fun J J J J=>nf) (fun J J J=>nf) (fun J J J=>nf) (fun J J J J=>nf) (fun J J J J=>nf) (fun J J J J J=>nf) (fun J J J J=>nf) (fun J J=>nf) (fun J J=>nf) (fun J J=>nf) (fun J J J J=>nf) (fun J J J J=>nf) (fun J J J J=>nf) (fun J J=>nf) (fun J J J=>nf) (fun J J J=>nf) (fun J J J=>nf) (fun J J=>nf) (fun J J=>nf) (fun J J=>nf) (fun J J J=>nf) (fun J J J J=>nf) h
noncomputable def M8(e:Expr)(k:Expr->Expr->Expr->Pos->Bool):Bool:= @Expr.casesOn (fun J=>Bool) e (fun J J J=>false) (fun J J J=>false) (fun J J J J=>false) (fun J J J=>false) (fun J J J J=>false) k (fun J J J=>false) (fun J J J=>false) (fun J J J J=>false) (fun J J J J=>false) (fun J J J J J=>false) (fun J J J J=>false) (fun J J=>false) (fun J J=>false) (fun J J=>false) (fun J J J J=>false) (fun J J J J=>false) (fun J J J J=>false) (fun J J=>false) (fun J J J=>false) (fun J J J=>false) (fun J J J=>false) (fun J J=>false) (fun J J=>false) (fun J J=>false) (fun J J J=>false) (fun J J J J=>false)
theorem PT{P:Expr->Prop}{e:Expr}{k:Expr->Expr->Expr->Pos->Bool}(h:M8 e k=true)(f:∀a0 a1 a2 a3,k a0 a1 a2 a3=true->P (.IfExp a0 a1 a2 a3)):P e:= @Expr.casesOn (fun e=>M8 e k=true->P e) e (fun J J J=>nf) (fun J J J=>nf) (fun J J J J=>nf) (fun J J J=>nf) (fun J J J J=>nf) f (fun J J J=>nf) (fun J J J=>nf) (fun J J J J=>nf) (fun J J J J=>nf) (fun J J J J J=>nf) (fun J J J J=>nf) (fun J J=>nf) (fun J J=>nf) (fun J J=>nf) (fun J J J J=>nf) (fun J J J J=>nf) (fun J J J J=>nf) (fun J J=>nf) (fun J J J=>nf) (fun J J J=>nf) (fun J J J=>nf) (fun J J=>nf) (fun J J=>nf) (fun J J=>nf) (fun J J J=>nf) (fun J J J J=>nf) h
noncomputable def LA(e:Expr)(k:List (Option Expr)->List Expr->Pos->Bool):Bool:= @Expr.casesOn (fun J=>Bool) e (fun J J J=>false) (fun J J J=>false) (fun J J J J=>false) (fun J J J=>false) (fun J J J J=>false) (fun J J J J=>false) k (fun J J J=>false) (fun J J J J=>false) (fun J J J J=>false) (fun J J J J J=>false) (fun J J J J=>false) (fun J J=>false) (fun J J=>false) (fun J J=>false) (fun J J J J=>false) (fun J J J J=>false) (fun J J J J=>false) (fun J J=>false) (fun J J J=>false) (fun J J J=>false) (fun J J J=>false) (fun J J=>false) (fun J J=>false) (fun J J=>false) (fun J J J=>false) (fun J J J J=>false)
theorem Ip{P:Expr->Prop}{e:Expr}{k:List (Option Expr)->List Expr->Pos->Bool}(h:LA e k=true)(f:∀a0 a1 a2,k a0 a1 a2=true->P (.Dict a0 a1 a2)):P e:= @Expr.casesOn (fun e=>LA e k=true->P e) e (fun J J J=>nf) (fun J J J=>nf) (fun J J J J=>nf) (fun J J J=>nf) (fun J J J J=>nf) (fun J J J J=>nf) f (fun J J J=>nf) (fun J J J J=>nf) (fun J J J J=>nf) (fun J J J J J=>nf) (fun J J J J=>nf) (fun J J=>nf) (fun J J=>nf) (fun J J=>nf) (fun J J J J=>nf) (fun J J J J=>nf) (fun J J J J=>nf) (fun J J=>nf) (fun J J J=>nf) (fun J J J=>nf) (fun J J J=>nf) (fun J J=>nf) (fun J J=>nf) (fun J J=>nf) (fun J J J=>nf) (fun J J J J=>nf) h
noncomputable def DW(e:Expr)(k:Expr->List Comprehension->Scope->Pos->Bool):Bool:= @Expr.casesOn (fun J=>Bool) e (fun J J J=>false) (fun J J J=>false) (fun J J J J=>false) (fun J J J=>false) (fun J J J J=>false) (fun J J J J=>false) (fun J J J=>false) (fun J J J=>false) k (fun J J J J=>false) (fun J J J J J=>false) (fun J J J J=>false) (fun J J=>false) (fun J J=>false) (fun J J=>false) (fun J J J J=>false) (fun J J J J=>false) (fun J J J J=>false) (fun J J=>false) (fun J J J=>false) (fun J J J=>false) (fun J J J=>false) (fun J J=>false) (fun J J=>false) (fun J J=>false) (fun J J J=>false) (fun J J J J=>false)
theorem DR{P:Expr->Prop}{e:Expr}{k:Expr->List Comprehension->Scope->Pos->Bool}(h:DW e k=true)(f:∀a0 a1 a2 a3,k a0 a1 a2 a3=true->P (.ListComp a0 a1 a2 a3)):P e:= @Expr.casesOn (fun e=>DW e k=true->P e) e (fun J J J=>nf) (fun J J J=>nf) (fun J J J J=>nf) (fun J J J=>nf) (fun J J J J=>nf) (fun J J J J=>nf) (fun J J J=>nf) (fun J J J=>nf) f (fun J J J J=>nf) (fun J J J J J=>nf) (fun J J J J=>nf) (fun J J=>nf) (fun J J=>nf) (fun J J=>nf) (fun J J J J=>nf) (fun J J J J=>nf) (fun J J J J=>nf) (fun J J=>nf) (fun J J J=>nf) (fun J J J=>nf) (fun J J J=>nf) (fun J J=>nf) (fun J J=>nf) (fun J J=>nf) (fun J J J=>nf) (fun J J J J=>nf) h
noncomputable def FH(e:Expr)(k:Expr->Expr->List Comprehension->Scope->Pos->Bool):Bool:= @Expr.casesOn (fun J=>Bool) e (fun J J J=>false) (fun J J J=>false) (fun J J J J=>false) (fun J J J=>false) (fun J J J J=>false) (fun J J J J=>false) (fun J J J=>false) (fun J J J=>false) (fun J J J J=>false) (fun J J J J=>false) k (fun J J J J=>false) (fun J J=>false) (fun J J=>false) (fun J J=>false) (fun J J J J=>false) (fun J J J J=>false) (fun J J J J=>false) (fun J J=>false) (fun J J J=>false) (fun J J J=>false) (fun J J J=>false) (fun J J=>false) (fun J J=>false) (fun J J=>false) (fun J J J=>false) (fun J J J J=>false)
theorem GO{P:Expr->Prop}{e:Expr}{k:Expr->Expr->List Comprehension->Scope->Pos->Bool}(h:FH e k=true)(f:∀a0 a1 a2 a3 a4,k a0 a1 a2 a3 a4=true->P (.DictComp a0 a1 a2 a3 a4)):P e:= @Expr.casesOn (fun e=>FH e k=true->P e) e (fun J J J=>nf) (fun J J J=>nf) (fun J J J J=>nf) (fun J J J=>nf) (fun J J J J=>nf) (fun J J J J=>nf) (fun J J J=>nf) (fun J J J=>nf) (fun J J J J=>nf) (fun J J J J=>nf) f (fun J J J J=>nf) (fun J J=>nf) (fun J J=>nf) (fun J J=>nf) (fun J J J J=>nf) (fun J J J J=>nf) (fun J J J J=>nf) (fun J J=>nf) (fun J J J=>nf) (fun J J J=>nf) (fun J J J=>nf) (fun J J=>nf) (fun J J=>nf) (fun J J=>nf) (fun J J J=>nf) (fun J J J J=>nf) h
noncomputable def Ik(e:Expr)(k:Expr->List CmpOp->List Expr->Pos->Bool):Bool:= @Expr.casesOn (fun J=>Bool) e (fun J J J=>false) (fun J J J=>false) (fun J J J J=>false) (fun J J J=>false) (fun J J J J=>false) (fun J J J J=>false) (fun J J J=>false) (fun J J J=>false) (fun J J J J=>false) (fun J J J J=>false) (fun J J J J J=>false) (fun J J J J=>false) (fun J J=>false) (fun J J=>false) (fun J J=>false) k (fun J J J J=>false) (fun J J J J=>false) (fun J J=>false) (fun J J J=>false) (fun J J J=>false) (fun J J J=>false) (fun J J=>false) (fun J J=>false) (fun J J=>false) (fun J J J=>false) (fun J J J J=>false)
theorem Mu{P:Expr->Prop}{e:Expr}{k:Expr->List CmpOp->List Expr->Pos->Bool}(h:Ik e k=true)(f:∀a0 a1 a2 a3,k a0 a1 a2 a3=true->P (.Compare a0 a1 a2 a3)):P e:= @Expr.casesOn (fun e=>Ik e k=true->P e) e (fun J J J=>nf) (fun J J J=>nf) (fun J J J J=>nf) (fun J J J=>nf) (fun J J J J=>nf) (fun J J J J=>nf) (fun J J J=>nf) (fun J J J=>nf) (fun J J J J=>nf) (fun J J J J=>nf) (fun J J J J J=>nf) (fun J J J J=>nf) (fun J J=>nf) (fun J J=>nf) (fun J J=>nf) f (fun J J J J=>nf) (fun J J J J=>nf) (fun J J=>nf) (fun J J J=>nf) (fun J J J=>nf) (fun J J J=>nf) (fun J J=>nf) (fun J J=>nf) (fun J J=>nf) (fun J J J=>nf) (fun J J J J=>nf) h
noncomputable def LW(e:Expr)(k:Expr->List Expr->List Keyword->Pos->Bool):Bool:= @Expr.casesOn (fun J=>Bool) e (fun J J J=>false) (fun J J J=>false) (fun J J J J=>false) (fun J J J=>false) (fun J J J J=>false) (fun J J J J=>false) (fun J J J=>false) (fun J J J=>false) (fun J J J J=>false) (fun J J J J=>false) (fun J J J J J=>false) (fun J J J J=>false) (fun J J=>false) (fun J J=>false) (fun J J=>false) (fun J J J J=>false) k (fun J J J J=>false) (fun J J=>false) (fun J J J=>false) (fun J J J=>false) (fun J J J=>false) (fun J J=>false) (fun J J=>false) (fun J J=>false) (fun J J J=>false) (fun J J J J=>false)
theorem Js{P:Expr->Prop}{e:Expr}{k:Expr->List Expr->List Keyword->Pos->Bool}(h:LW e k=true)(f:∀a0 a1 a2 a3,k a0 a1 a2 a3=true->P (.Call a0 a1 a2 a3)):P e:= @Expr.casesOn (fun e=>LW e k=true->P e) e (fun J J J=>nf) (fun J J J=>nf) (fun J J J J=>nf) (fun J J J=>nf) (fun J J J J=>nf) (fun J J J J=>nf) (fun J J J=>nf) (fun J J J=>nf) (fun J J J J=>nf) (fun J J J J=>nf) (fun J J J J J=>nf) (fun J J J J=>nf) (fun J J=>nf) (fun J J=>nf) (fun J J=>nf) (fun J J J J=>nf) f (fun J J J J=>nf) (fun J J=>nf) (fun J J J=>nf) (fun J J J=>nf) (fun J J J=>nf) (fun J J=>nf) (fun J J=>nf) (fun J J=>nf) (fun J J J=>nf) (fun J J J J=>nf) h
noncomputable def Fw(e:Expr)(k:Const->Nat->Pos->Bool):Bool:= @Expr.casesOn (fun J=>Bool) e (fun J J J=>false) (fun J J J=>false) (fun J J J J=>false) (fun J J J=>false) (fun J J J J=>false) (fun J J J J=>false) (fun J J J=>false) (fun J J J=>false) (fun J J J J=>false) (fun J J J J=>false) (fun J J J J J=>false) (fun J J J J=>false) (fun J J=>false) (fun J J=>false) (fun J J=>false) (fun J J J J=>false) (fun J J J J=>false) (fun J J J J=>false) (fun J J=>false) k (fun J J J=>false) (fun J J J=>false) (fun J J=>false) (fun J J=>false) (fun J J=>false) (fun J J J=>false) (fun J J J J=>false)
theorem Gn{P:Expr->Prop}{e:Expr}{k:Const->Nat->Pos->Bool}(h:Fw e k=true)(f:∀a0 a1 a2,k a0 a1 a2=true->P (.Constant a0 a1 a2)):P e:= @Expr.casesOn (fun e=>Fw e k=true->P e) e (fun J J J=>nf) (fun J J J=>nf) (fun J J J J=>nf) (fun J J J=>nf) (fun J J J J=>nf) (fun J J J J=>nf) (fun J J J=>nf) (fun J J J=>nf) (fun J J J J=>nf) (fun J J J J=>nf) (fun J J J J J=>nf) (fun J J J J=>nf) (fun J J=>nf) (fun J J=>nf) (fun J J=>nf) (fun J J J J=>nf) (fun J J J J=>nf) (fun J J J J=>nf) (fun J J=>nf) f (fun J J J=>nf) (fun J J J=>nf) (fun J J=>nf) (fun J J=>nf) (fun J J=>nf) (fun J J J=>nf) (fun J J J J=>nf) h
noncomputable def Ds(e:Expr)(k:Expr->Str->Pos->Bool):Bool:= @Expr.casesOn (fun J=>Bool) e (fun J J J=>false) (fun J J J=>false) (fun J J J J=>false) (fun J J J=>false) (fun J J J J=>false) (fun J J J J=>false) (fun J J J=>false) (fun J J J=>false) (fun J J J J=>false) (fun J J J J=>false) (fun J J J J J=>false) (fun J J J J=>false) (fun J J=>false) (fun J J=>false) (fun J J=>false) (fun J J J J=>false) (fun J J J J=>false) (fun J J J J=>false) (fun J J=>false) (fun J J J=>false) k (fun J J J=>false) (fun J J=>false) (fun J J=>false) (fun J J=>false) (fun J J J=>false) (fun J J J J=>false)
theorem DC{P:Expr->Prop}{e:Expr}{k:Expr->Str->Pos->Bool}(h:Ds e k=true)(f:∀a0 a1 a2,k a0 a1 a2=true->P (.Attribute a0 a1 a2)):P e:= @Expr.casesOn (fun e=>Ds e k=true->P e) e (fun J J J=>nf) (fun J J J=>nf) (fun J J J J=>nf) (fun J J J=>nf) (fun J J J J=>nf) (fun J J J J=>nf) (fun J J J=>nf) (fun J J J=>nf) (fun J J J J=>nf) (fun J J J J=>nf) (fun J J J J J=>nf) (fun J J J J=>nf) (fun J J=>nf) (fun J J=>nf) (fun J J=>nf) (fun J J J J=>nf) (fun J J J J=>nf) (fun J J J J=>nf) (fun J J=>nf) (fun J J J=>nf) f (fun J J J=>nf) (fun J J=>nf) (fun J J=>nf) (fun J J=>nf) (fun J J J=>nf) (fun J J J J=>nf) h
noncomputable def DA(e:Expr)(k:Expr->Expr->Pos->Bool):Bool:= @Expr.casesOn (fun J=>Bool) e (fun J J J=>false) (fun J J J=>false) (fun J J J J=>false) (fun J J J=>false) (fun J J J J=>false) (fun J J J J=>false) (fun J J J=>false) (fun J J J=>false) (fun J J J J=>false) (fun J J J J=>false) (fun J J J J J=>false) (fun J J J J=>false) (fun J J=>false) (fun J J=>false) (fun J J=>false) (fun J J J J=>false) (fun J J J J=>false) (fun J J J J=>false) (fun J J=>false) (fun J J J=>false) (fun J J J=>false) k (fun J J=>false) (fun J J=>false) (fun J J=>false) (fun J J J=>false) (fun J J J J=>false)
theorem DB{P:Expr->Prop}{e:Expr}{k:Expr->Expr->Pos->Bool}(h:DA e k=true)(f:∀a0 a1 a2,k a0 a1 a2=true->P (.Subscript a0 a1 a2)):P e:= @Expr.casesOn (fun e=>DA e k=true->P e) e (fun J J J=>nf) (fun J J J=>nf) (fun J J J J=>nf) (fun J J J=>nf) (fun J J J J=>nf) (fun J J J J=>nf) (fun J J J=>nf) (fun J J J=>nf) (fun J J J J=>nf) (fun J J J J=>nf) (fun J J J J J=>nf) (fun J J J J=>nf) (fun J J=>nf) (fun J J=>nf) (fun J J=>nf) (fun J J J J=>nf) (fun J J J J=>nf) (fun J J J J=>nf) (fun J J=>nf) (fun J J J=>nf) (fun J J J=>nf) f (fun J J=>nf) (fun J J=>nf) (fun J J=>nf) (fun J J J=>nf) (fun J J J J=>nf) h
noncomputable def Dp(e:Expr)(k:Str->Pos->Bool):Bool:= @Expr.casesOn (fun J=>Bool) e (fun J J J=>false) (fun J J J=>false) (fun J J J J=>false) (fun J J J=>false) (fun J J J J=>false) (fun J J J J=>false) (fun J J J=>false) (fun J J J=>false) (fun J J J J=>false) (fun J J J J=>false) (fun J J J J J=>false) (fun J J J J=>false) (fun J J=>false) (fun J J=>false) (fun J J=>false) (fun J J J J=>false) (fun J J J J=>false) (fun J J J J=>false) (fun J J=>false) (fun J J J=>false) (fun J J J=>false) (fun J J J=>false) (fun J J=>false) k (fun J J=>false) (fun J J J=>false) (fun J J J J=>false)
theorem BF{P:Expr->Prop}{e:Expr}{k:Str->Pos->Bool}(h:Dp e k=true)(f:∀a0 a1,k a0 a1=true->P (.Name a0 a1)):P e:= @Expr.casesOn (fun e=>Dp e k=true->P e) e (fun J J J=>nf) (fun J J J=>nf) (fun J J J J=>nf) (fun J J J=>nf) (fun J J J J=>nf) (fun J J J J=>nf) (fun J J J=>nf) (fun J J J=>nf) (fun J J J J=>nf) (fun J J J J=>nf) (fun J J J J J=>nf) (fun J J J J=>nf) (fun J J=>nf) (fun J J=>nf) (fun J J=>nf) (fun J J J J=>nf) (fun J J J J=>nf) (fun J J J J=>nf) (fun J J=>nf) (fun J J J=>nf) (fun J J J=>nf) (fun J J J=>nf) (fun J J=>nf) f (fun J J=>nf) (fun J J J=>nf) (fun J J J J=>nf) h
noncomputable def RH(e:Expr)(k:List Expr->Pos->Bool):Bool:= @Expr.casesOn (fun J=>Bool) e (fun J J J=>false) (fun J J J=>false) (fun J J J J=>false) (fun J J J=>false) (fun J J J J=>false) (fun J J J J=>false) (fun J J J=>false) (fun J J J=>false) (fun J J J J=>false) (fun J J J J=>false) (fun J J J J J=>false) (fun J J J J=>false) (fun J J=>false) (fun J J=>false) (fun J J=>false) (fun J J J J=>false) (fun J J J J=>false) (fun J J J J=>false) (fun J J=>false) (fun J J J=>false) (fun J J J=>false) (fun J J J=>false) (fun J J=>false) (fun J J=>false) k (fun J J J=>false) (fun J J J J=>false)
theorem QL{P:Expr->Prop}{e:Expr}{k:List Expr->Pos->Bool}(h:RH e k=true)(f:∀a0 a1,k a0 a1=true->P (.List a0 a1)):P e:= @Expr.casesOn (fun e=>RH e k=true->P e) e (fun J J J=>nf) (fun J J J=>nf) (fun J J J J=>nf) (fun J J J=>nf) (fun J J J J=>nf) (fun J J J J=>nf) (fun J J J=>nf) (fun J J J=>nf) (fun J J J J=>nf) (fun J J J J=>nf) (fun J J J J J=>nf) (fun J J J J=>nf) (fun J J=>nf) (fun J J=>nf) (fun J J=>nf) (fun J J J J=>nf) (fun J J J J=>nf) (fun J J J J=>nf) (fun J J=>nf) (fun J J J=>nf) (fun J J J=>nf) (fun J J J=>nf) (fun J J=>nf) (fun J J=>nf) f (fun J J J=>nf) (fun J J J J=>nf) h
noncomputable def G4(e:Expr)(k:List Expr->Nat->Pos->Bool):Bool:= @Expr.casesOn (fun J=>Bool) e (fun J J J=>false) (fun J J J=>false) (fun J J J J=>false) (fun J J J=>false) (fun J J J J=>false) (fun J J J J=>false) (fun J J J=>false) (fun J J J=>false) (fun J J J J=>false) (fun J J J J=>false) (fun J J J J J=>false) (fun J J J J=>false) (fun J J=>false) (fun J J=>false) (fun J J=>false) (fun J J J J=>false) (fun J J J J=>false) (fun J J J J=>false) (fun J J=>false) (fun J J J=>false) (fun J J J=>false) (fun J J J=>false) (fun J J=>false) (fun J J=>false) (fun J J=>false) k (fun J J J J=>false)
theorem Fz{P:Expr->Prop}{e:Expr}{k:List Expr->Nat->Pos->Bool}(h:G4 e k=true)(f:∀a0 a1 a2,k a0 a1 a2=true->P (.Tuple a0 a1 a2)):P e:= @Expr.casesOn (fun e=>G4 e k=true->P e) e (fun J J J=>nf) (fun J J J=>nf) (fun J J J J=>nf) (fun J J J=>nf) (fun J J J J=>nf) (fun J J J J=>nf) (fun J J J=>nf) (fun J J J=>nf) (fun J J J J=>nf) (fun J J J J=>nf) (fun J J J J J=>nf) (fun J J J J=>nf) (fun J J=>nf) (fun J J=>nf) (fun J J=>nf) (fun J J J J=>nf) (fun J J J J=>nf) (fun J J J J=>nf) (fun J J=>nf) (fun J J J=>nf) (fun J J J=>nf) (fun J J J=>nf) (fun J J=>nf) (fun J J=>nf) (fun J J=>nf) f (fun J J J J=>nf) h
noncomputable def KH(e:Expr)(k:Option Expr->Option Expr->Option Expr->Pos->Bool):Bool:= @Expr.casesOn (fun J=>Bool) e (fun J J J=>false) (fun J J J=>false) (fun J J J J=>false) (fun J J J=>false) (fun J J J J=>false) (fun J J J J=>false) (fun J J J=>false) (fun J J J=>false) (fun J J J J=>false) (fun J J J J=>false) (fun J J J J J=>false) (fun J J J J=>false) (fun J J=>false) (fun J J=>false) (fun J J=>false) (fun J J J J=>false) (fun J J J J=>false) (fun J J J J=>false) (fun J J=>false) (fun J J J=>false) (fun J J J=>false) (fun J J J=>false) (fun J J=>false) (fun J J=>false) (fun J J=>false) (fun J J J=>false) k
theorem J6{P:Expr->Prop}{e:Expr}{k:Option Expr->Option Expr->Option Expr->Pos->Bool}(h:KH e k=true)(f:∀a0 a1 a2 a3,k a0 a1 a2 a3=true->P (.Slice a0 a1 a2 a3)):P e:= @Expr.casesOn (fun e=>KH e k=true->P e) e (fun J J J=>nf) (fun J J J=>nf) (fun J J J J=>nf) (fun J J J=>nf) (fun J J J J=>nf) (fun J J J J=>nf) (fun J J J=>nf) (fun J J J=>nf) (fun J J J J=>nf) (fun J J J J=>nf) (fun J J J J J=>nf) (fun J J J J=>nf) (fun J J=>nf) (fun J J=>nf) (fun J J=>nf) (fun J J J J=>nf) (fun J J J J=>nf) (fun J J J J=>nf) (fun J J=>nf) (fun J J J=>nf) (fun J J J=>nf) (fun J J J=>nf) (fun J J=>nf) (fun J J=>nf) (fun J J=>nf) (fun J J J=>nf) f h
noncomputable def Gu(e:Stmt)(k:Option Expr->Pos->Bool):Bool:= @Stmt.casesOn (fun J=>Bool) e (fun J J J J J J J J J J=>false) (fun J J J J J J J J J J=>false) (fun J J J J J J J J J J J=>false) k (fun J J=>false) (fun J J J=>false) (fun J J J J J J J=>false) (fun J J J J=>false) (fun J J J J J=>false) (fun J J J J J=>false) (fun J J J J J=>false) (fun J J J J=>false) (fun J J J J=>false) (fun J J J=>false) (fun J J J=>false) (fun J J J=>false) (fun J J J=>false) (fun J J J J J=>false) (fun J J J J J=>false) (fun J J J=>false) (fun J J=>false) (fun J J J J=>false) (fun J J=>false) (fun J J=>false) (fun J J=>false) (fun J=>false) (fun J=>false) (fun J=>false)
theorem Gi{P:Stmt->Prop}{e:Stmt}{k:Option Expr->Pos->Bool}(h:Gu e k=true)(f:∀a0 a1,k a0 a1=true->P (.Return a0 a1)):P e:= @Stmt.casesOn (fun e=>Gu e k=true->P e) e (fun J J J J J J J J J J=>nf) (fun J J J J J J J J J J=>nf) (fun J J J J J J J J J J J=>nf) f (fun J J=>nf) (fun J J J=>nf) (fun J J J J J J J=>nf) (fun J J J J=>nf) (fun J J J J J=>nf) (fun J J J J J=>nf) (fun J J J J J=>nf) (fun J J J J=>nf) (fun J J J J=>nf) (fun J J J=>nf) (fun J J J=>nf) (fun J J J=>nf) (fun J J J=>nf) (fun J J J J J=>nf) (fun J J J J J=>nf) (fun J J J=>nf) (fun J J=>nf) (fun J J J J=>nf) (fun J J=>nf) (fun J J=>nf) (fun J J=>nf) (fun J=>nf) (fun J=>nf) (fun J=>nf) h
noncomputable def EN(e:Stmt)(k:List Expr->Expr->Pos->Bool):Bool:= @Stmt.casesOn (fun J=>Bool) e (fun J J J J J J J J J J=>false) (fun J J J J J J J J J J=>false) (fun J J J J J J J J J J J=>false) (fun J J=>false) (fun J J=>false) k (fun J J J J J J J=>false) (fun J J J J=>false) (fun J J J J J=>false) (fun J J J J J=>false) (fun J J J J J=>false) (fun J J J J=>false) (fun J J J J=>false) (fun J J J=>false) (fun J J J=>false) (fun J J J=>false) (fun J J J=>false) (fun J J J J J=>false) (fun J J J J J=>false) (fun J J J=>false) (fun J J=>false) (fun J J J J=>false) (fun J J=>false) (fun J J=>false) (fun J J=>false) (fun J=>false) (fun J=>false) (fun J=>false)
theorem D9{P:Stmt->Prop}{e:Stmt}{k:List Expr->Expr->Pos->Bool}(h:EN e k=true)(f:∀a0 a1 a2,k a0 a1 a2=true->P (.Assign a0 a1 a2)):P e:= @Stmt.casesOn (fun e=>EN e k=true->P e) e (fun J J J J J J J J J J=>nf) (fun J J J J J J J J J J=>nf) (fun J J J J J J J J J J J=>nf) (fun J J=>nf) (fun J J=>nf) f (fun J J J J J J J=>nf) (fun J J J J=>nf) (fun J J J J J=>nf) (fun J J J J J=>nf) (fun J J J J J=>nf) (fun J J J J=>nf) (fun J J J J=>nf) (fun J J J=>nf) (fun J J J=>nf) (fun J J J=>nf) (fun J J J=>nf) (fun J J J J J=>nf) (fun J J J J J=>nf) (fun J J J=>nf) (fun J J=>nf) (fun J J J J=>nf) (fun J J=>nf) (fun J J=>nf) (fun J J=>nf) (fun J=>nf) (fun J=>nf) (fun J=>nf) h
noncomputable def F5(e:Stmt)(k:Expr->Operator->Expr->Pos->Bool):Bool:= @Stmt.casesOn (fun J=>Bool) e (fun J J J J J J J J J J=>false) (fun J J J J J J J J J J=>false) (fun J J J J J J J J J J J=>false) (fun J J=>false) (fun J J=>false) (fun J J J=>false) (fun J J J J J J J=>false) k (fun J J J J J=>false) (fun J J J J J=>false) (fun J J J J J=>false) (fun J J J J=>false) (fun J J J J=>false) (fun J J J=>false) (fun J J J=>false) (fun J J J=>false) (fun J J J=>false) (fun J J J J J=>false) (fun J J J J J=>false) (fun J J J=>false) (fun J J=>false) (fun J J J J=>false) (fun J J=>false) (fun J J=>false) (fun J J=>false) (fun J=>false) (fun J=>false) (fun J=>false)
theorem JJ{P:Stmt->Prop}{e:Stmt}{k:Expr->Operator->Expr->Pos->Bool}(h:F5 e k=true)(f:∀a0 a1 a2 a3,k a0 a1 a2 a3=true->P (.AugAssign a0 a1 a2 a3)):P e:= @Stmt.casesOn (fun e=>F5 e k=true->P e) e (fun J J J J J J J J J J=>nf) (fun J J J J J J J J J J=>nf) (fun J J J J J J J J J J J=>nf) (fun J J=>nf) (fun J J=>nf) (fun J J J=>nf) (fun J J J J J J J=>nf) f (fun J J J J J=>nf) (fun J J J J J=>nf) (fun J J J J J=>nf) (fun J J J J=>nf) (fun J J J J=>nf) (fun J J J=>nf) (fun J J J=>nf) (fun J J J=>nf) (fun J J J=>nf) (fun J J J J J=>nf) (fun J J J J J=>nf) (fun J J J=>nf) (fun J J=>nf) (fun J J J J=>nf) (fun J J=>nf) (fun J J=>nf) (fun J J=>nf) (fun J=>nf) (fun J=>nf) (fun J=>nf) h
noncomputable def Qb(e:Stmt)(k:Expr->Expr->List Stmt->List Stmt->Pos->Bool):Bool:= @Stmt.casesOn (fun J=>Bool) e (fun J J J J J J J J J J=>false) (fun J J J J J J J J J J=>false) (fun J J J J J J J J J J J=>false) (fun J J=>false) (fun J J=>false) (fun J J J=>false) (fun J J J J J J J=>false) (fun J J J J=>false) (fun J J J J J=>false) k (fun J J J J J=>false) (fun J J J J=>false) (fun J J J J=>false) (fun J J J=>false) (fun J J J=>false) (fun J J J=>false) (fun J J J=>false) (fun J J J J J=>false) (fun J J J J J=>false) (fun J J J=>false) (fun J J=>false) (fun J J J J=>false) (fun J J=>false) (fun J J=>false) (fun J J=>false) (fun J=>false) (fun J=>false) (fun J=>false)
theorem HU{P:Stmt->Prop}{e:Stmt}{k:Expr->Expr->List Stmt->List Stmt->Pos->Bool}(h:Qb e k=true)(f:∀a0 a1 a2 a3 a4,k a0 a1 a2 a3 a4=true->P (.For a0 a1 a2 a3 a4)):P e:= @Stmt.casesOn (fun e=>Qb e k=true->P e) e (fun J J J J J J J J J J=>nf) (fun J J J J J J J J J J=>nf) (fun J J J J J J J J J J J=>nf) (fun J J=>nf) (fun J J=>nf) (fun J J J=>nf) (fun J J J J J J J=>nf) (fun J J J J=>nf) (fun J J J J J=>nf) f (fun J J J J J=>nf) (fun J J J J=>nf) (fun J J J J=>nf) (fun J J J=>nf) (fun J J J=>nf) (fun J J J=>nf) (fun J J J=>nf) (fun J J J J J=>nf) (fun J J J J J=>nf) (fun J J J=>nf) (fun J J=>nf) (fun J J J J=>nf) (fun J J=>nf) (fun J J=>nf) (fun J J=>nf) (fun J=>nf) (fun J=>nf) (fun J=>nf) h
noncomputable def dM(e:Stmt)(k:Expr->List Stmt->List Stmt->Pos->Bool):Bool:= @Stmt.casesOn (fun J=>Bool) e (fun J J J J J J J J J J=>false) (fun J J J J J J J J J J=>false) (fun J J J J J J J J J J J=>false) (fun J J=>false) (fun J J=>false) (fun J J J=>false) (fun J J J J J J J=>false) (fun J J J J=>false) (fun J J J J J=>false) (fun J J J J J=>false) (fun J J J J J=>false) (fun J J J J=>false) k (fun J J J=>false) (fun J J J=>false) (fun J J J=>false) (fun J J J=>false) (fun J J J J J=>false) (fun J J J J J=>false) (fun J J J=>false) (fun J J=>false) (fun J J J J=>false) (fun J J=>false) (fun J J=>false) (fun J J=>false) (fun J=>false) (fun J=>false) (fun J=>false)
theorem WQ{P:Stmt->Prop}{e:Stmt}{k:Expr->List Stmt->List Stmt->Pos->Bool}(h:dM e k=true)(f:∀a0 a1 a2 a3,k a0 a1 a2 a3=true->P (.If a0 a1 a2 a3)):P e:= @Stmt.casesOn (fun e=>dM e k=true->P e) e (fun J J J J J J J J J J=>nf) (fun J J J J J J J J J J=>nf) (fun J J J J J J J J J J J=>nf) (fun J J=>nf) (fun J J=>nf) (fun J J J=>nf) (fun J J J J J J J=>nf) (fun J J J J=>nf) (fun J J J J J=>nf) (fun J J J J J=>nf) (fun J J J J J=>nf) (fun J J J J=>nf) f (fun J J J=>nf) (fun J J J=>nf) (fun J J J=>nf) (fun J J J=>nf) (fun J J J J J=>nf) (fun J J J J J=>nf) (fun J J J=>nf) (fun J J=>nf) (fun J J J J=>nf) (fun J J=>nf) (fun J J=>nf) (fun J J=>nf) (fun J=>nf) (fun J=>nf) (fun J=>nf) h
noncomputable def NZ(e:Stmt)(k:Option Expr->Option Expr->Pos->Bool):Bool:= @Stmt.casesOn (fun J=>Bool) e (fun J J J J J J J J J J=>false) (fun J J J J J J J J J J=>false) (fun J J J J J J J J J J J=>false) (fun J J=>false) (fun J J=>false) (fun J J J=>false) (fun J J J J J J J=>false) (fun J J J J=>false) (fun J J J J J=>false) (fun J J J J J=>false) (fun J J J J J=>false) (fun J J J J=>false) (fun J J J J=>false) (fun J J J=>false) (fun J J J=>false) (fun J J J=>false) k (fun J J J J J=>false) (fun J J J J J=>false) (fun J J J=>false) (fun J J=>false) (fun J J J J=>false) (fun J J=>false) (fun J J=>false) (fun J J=>false) (fun J=>false) (fun J=>false) (fun J=>false)
theorem Px{P:Stmt->Prop}{e:Stmt}{k:Option Expr->Option Expr->Pos->Bool}(h:NZ e k=true)(f:∀a0 a1 a2,k a0 a1 a2=true->P (.Raise a0 a1 a2)):P e:= @Stmt.casesOn (fun e=>NZ e k=true->P e) e (fun J J J J J J J J J J=>nf) (fun J J J J J J J J J J=>nf) (fun J J J J J J J J J J J=>nf) (fun J J=>nf) (fun J J=>nf) (fun J J J=>nf) (fun J J J J J J J=>nf) (fun J J J J=>nf) (fun J J J J J=>nf) (fun J J J J J=>nf) (fun J J J J J=>nf) (fun J J J J=>nf) (fun J J J J=>nf) (fun J J J=>nf) (fun J J J=>nf) (fun J J J=>nf) f (fun J J J J J=>nf) (fun J J J J J=>nf) (fun J J J=>nf) (fun J J=>nf) (fun J J J J=>nf) (fun J J=>nf) (fun J J=>nf) (fun J J=>nf) (fun J=>nf) (fun J=>nf) (fun J=>nf) h
noncomputable def Yy(e:Stmt)(k:List Stmt->List ExceptHandler->List Stmt->List Stmt->Pos->Bool):Bool:= @Stmt.casesOn (fun J=>Bool) e (fun J J J J J J J J J J=>false) (fun J J J J J J J J J J=>false) (fun J J J J J J J J J J J=>false) (fun J J=>false) (fun J J=>false) (fun J J J=>false) (fun J J J J J J J=>false) (fun J J J J=>false) (fun J J J J J=>false) (fun J J J J J=>false) (fun J J J J J=>false) (fun J J J J=>false) (fun J J J J=>false) (fun J J J=>false) (fun J J J=>false) (fun J J J=>false) (fun J J J=>false) k (fun J J J J J=>false) (fun J J J=>false) (fun J J=>false) (fun J J J J=>false) (fun J J=>false) (fun J J=>false) (fun J J=>false) (fun J=>false) (fun J=>false) (fun J=>false)
theorem Vv{P:Stmt->Prop}{e:Stmt}{k:List Stmt->List ExceptHandler->List Stmt->List Stmt->Pos->Bool}(h:Yy e k=true)(f:∀a0 a1 a2 a3 a4,k a0 a1 a2 a3 a4=true->P (.Try a0 a1 a2 a3 a4)):P e:= @Stmt.casesOn (fun e=>Yy e k=true->P e) e (fun J J J J J J J J J J=>nf) (fun J J J J J J J J J J=>nf) (fun J J J J J J J J J J J=>nf) (fun J J=>nf) (fun J J=>nf) (fun J J J=>nf) (fun J J J J J J J=>nf) (fun J J J J=>nf) (fun J J J J J=>nf) (fun J J J J J=>nf) (fun J J J J J=>nf) (fun J J J J=>nf) (fun J J J J=>nf) (fun J J J=>nf) (fun J J J=>nf) (fun J J J=>nf) (fun J J J=>nf) f (fun J J J J J=>nf) (fun J J J=>nf) (fun J J=>nf) (fun J J J J=>nf) (fun J J=>nf) (fun J J=>nf) (fun J J=>nf) (fun J=>nf) (fun J=>nf) (fun J=>nf) h
noncomputable def Ru(e:Stmt)(k:Expr->Pos->Bool):Bool:= @Stmt.casesOn (fun J=>Bool) e (fun J J J J J J J J J J=>false) (fun J J J J J J J J J J=>false) (fun J J J J J J J J J J J=>false) (fun J J=>false) (fun J J=>false) (fun J J J=>false) (fun J J J J J J J=>false) (fun J J J J=>false) (fun J J J J J=>false) (fun J J J J J=>false) (fun J J J J J=>false) (fun J J J J=>false) (fun J J J J=>false) (fun J J J=>false) (fun J J J=>false) (fun J J J=>false) (fun J J J=>false) (fun J J J J J=>false) (fun J J J J J=>false) (fun J J J=>false) (fun J J=>false) (fun J J J J=>false) (fun J J=>false) (fun J J=>false) k (fun J=>false) (fun J=>false) (fun J=>false)
theorem Sh{P:Stmt->Prop}{e:Stmt}{k:Expr->Pos->Bool}(h:Ru e k=true)(f:∀a0 a1,k a0 a1=true->P (.Expr a0 a1)):P e:= @Stmt.casesOn (fun e=>Ru e k=true->P e) e (fun J J J J J J J J J J=>nf) (fun J J J J J J J J J J=>nf) (fun J J J J J J J J J J J=>nf) (fun J J=>nf) (fun J J=>nf) (fun J J J=>nf) (fun J J J J J J J=>nf) (fun J J J J=>nf) (fun J J J J J=>nf) (fun J J J J J=>nf) (fun J J J J J=>nf) (fun J J J J=>nf) (fun J J J J=>nf) (fun J J J=>nf) (fun J J J=>nf) (fun J J J=>nf) (fun J J J=>nf) (fun J J J J J=>nf) (fun J J J J J=>nf) (fun J J J=>nf) (fun J J=>nf) (fun J J J J=>nf) (fun J J=>nf) (fun J J=>nf) f (fun J=>nf) (fun J=>nf) (fun J=>nf) h
theorem e0{α:Type}{P:List α->Prop}{l:List α}(h:l.isEmpty=true)(p:P []):P l:=by
 cases l with
 | nil=>exact p
 | cons=>exact nf h
noncomputable def x1{α:Type}(l:List α)(k:α->Bool):Bool:= @List.casesOn α (fun J=>Bool) l false fun a r=>r.isEmpty&&k a
theorem Db{α:Type}{P:List α->Prop}{l:List α}{k:α->Bool}(h:x1 l k=true)(f:∀a,k a=true->P [a]):P l:=
 @List.casesOn α (fun l=>x1 l k=true->P l) l nf (fun a r h=>e0 (P:=fun r=>P (a::r)) (Ag h) (f a (Am h))) h
noncomputable def x2{α:Type}(l:List α)(k:α->α->Bool):Bool:= @List.casesOn α (fun J=>Bool) l false fun a r=>x1 r (k a)
theorem J1{α:Type}{P:List α->Prop}{l:List α}{k:α->α->Bool}(h:x2 l k=true)(f:∀a b,k a b=true->P [a,b]):P l:=
 @List.casesOn α (fun l=>x2 l k=true->P l) l nf (fun a r h=>Db (P:=fun r=>P (a::r)) h (f a)) h
noncomputable def xo{α:Type}(o:Option α)(k:α->Bool):Bool:= @Option.casesOn α (fun J=>Bool) o false k
theorem FT{α:Type}{P:Option α->Prop}{o:Option α}{k:α->Bool}(h:xo o k=true)(f:∀a,k a=true->P (some a)):P o:=
 @Option.casesOn α (fun o=>xo o k=true->P o) o nf f h
theorem HA{α:Type}{P:Option α->Prop}{o:Option α}(h:o.isNone=true)(p:P none):P o:=by
 cases o with
 | none=>exact p
 | some=>exact nf h
section
variable{P:Expr->Prop}{e:Expr}{nm:Str}
noncomputable def xG(ns:Dm)(e:Expr)(nm:Str):Bool:=Dp e fun x J=>x==nm&&Df ns nm
theorem ON(h:xG ns e nm=true)(f:∀p,Df ns nm=true->P (.Name nm p)):P e:=BF h fun x p h=>bq (P:=fun x=>P (.Name x p)) (Ag h) (f p (Am h))
noncomputable def xC(ns:Dm)(e:Expr)(nm:Str)(k:List Expr->Bool):Bool:=LW e fun g es kws J=>kws.isEmpty&&xG ns g nm&&k es
theorem Kf{k:List Expr->Bool}(h:xC ns e nm k=true)(f:∀p es q,Df ns nm=true->k es=true->P (.Call (.Name nm p) es [] q)):P e:=
 Js h fun g es kws q h=>e0 (P:=fun kws=>P (.Call g es kws q)) (Ag (Ag h)) (ON (P:=fun g=>P (.Call g es [] q)) (Am (Ag h)) fun p hg=>f p es q hg (Am h))
noncomputable def WG(ns:Dm)(e:Expr)(nm:Str)(k:Expr->Bool):Bool:=xC ns e nm fun es=>x1 es fun x=>Ar x&&k x
theorem FZ{k:Expr->Bool}(h:WG ns e nm k=true)(f:∀p x q,Df ns nm=true->Ar x=true->k x=true->P (.Call (.Name nm p) [x] [] q)):P e:=
 Kf h fun p es q hg h=>Db (P:=fun es=>P (.Call (.Name nm p) es [] q)) h fun x h=>f p x q hg (Ag h) (Am h)
noncomputable def ZC(ns:Dm)(e:Expr)(nm:Str)(k:Expr->Expr->Bool):Bool:=xC ns e nm fun es=>x2 es fun x y=>Ar x&&k x y
theorem KO{k:Expr->Expr->Bool}(h:ZC ns e nm k=true)(f:∀p x y q,Df ns nm=true->Ar x=true->k x y=true->P (.Call (.Name nm p) [x,y] [] q)):P e:=
 Kf h fun p es q hg h=>J1 (P:=fun es=>P (.Call (.Name nm p) es [] q)) h fun x y h=>f p x y q hg (Ag h) (Am h)
noncomputable def xM(e:Expr)(nm:Str)(k:Expr->List Expr->Bool):Bool:=LW e fun g es kws p=>kws.isEmpty&&Ds g fun x y ap=>y==nm&&A0 x&&ap.endLine==p.line&&k x es
theorem Rq{k:Expr->List Expr->Bool}(h:xM e nm k=true)(f:∀x ap es p,A0 x=true->(ap.endLine==p.line)=true->k x es=true->P (.Call (.Attribute x nm ap) es [] p)):P e:=
 Js h fun g es kws p h=>e0 (P:=fun kws=>P (.Call g es kws p)) (Ag h) (DC (P:=fun g=>P (.Call g es [] p)) (Am h) fun x y ap h=>bq (P:=fun y=>P (.Call (.Attribute x y ap) es [] p)) (Ag (Ag (Ag h))) (f x ap es p (Am (Ag (Ag h))) (Am (Ag h)) (Am h)))
noncomputable def YR(e:Expr)(nm:Str)(k:Expr->Expr->Bool):Bool:=xM e nm fun x es=>x1 es fun y=>Ar y&&k x y
theorem Jk{k:Expr->Expr->Bool}(h:YR e nm k=true)(f:∀x ap y p,A0 x=true->(ap.endLine==p.line)=true->Ar y=true->k x y=true->P (.Call (.Attribute x nm ap) [y] [] p)):P e:=
 Rq h fun x ap es p h1 h2 h=>Db (P:=fun es=>P (.Call (.Attribute x nm ap) es [] p)) h fun y h=>f x ap y p h1 h2 (Ag h) (Am h)
noncomputable def bM(e:Expr)(nm:Str)(k:Expr->Bool):Bool:=xM e nm fun x es=>es.isEmpty&&k x
theorem M3{k:Expr->Bool}(h:bM e nm k=true)(f:∀x ap p,A0 x=true->(ap.endLine==p.line)=true->k x=true->P (.Call (.Attribute x nm ap) [] [] p)):P e:=
 Rq h fun x ap es p h1 h2 h=>e0 (P:=fun es=>P (.Call (.Attribute x nm ap) es [] p)) (Ag h) (f x ap p h1 h2 (Am h))
noncomputable def Rf(e:Expr)(k:Expr->CmpOp->Expr->Bool):Bool:=Ik e fun l os rs J=>x1 os fun o=>x1 rs fun r=>k l o r
theorem HV{k:Expr->CmpOp->Expr->Bool}(h:Rf e k=true)(f:∀l o r p,k l o r=true->P (.Compare l [o] [r] p)):P e:=
 Mu h fun l os rs p h=>Db (P:=fun os=>P (.Compare l os rs p)) h fun o h=>Db (P:=fun rs=>P (.Compare l [o] rs p)) h fun r h=>f l o r p h
noncomputable def xK(e:Expr)(c:Const):Bool:=Fw e fun d J J=>d==c
theorem LB{c:Const}(h:xK e c=true)(f:∀k p,P (.Constant c k p)):P e:=Gn h fun d k p h=>bq (P:=fun d=>P (.Constant d k p)) h (f k p)
noncomputable def Tq(gs:List Comprehension)(k:Str->Expr->List Expr->Bool):Bool:=x1 gs fun g=>g.is_async==0&&Dp g.target fun x J=>k x g.iter g.ifs
theorem Ia{Q:List Comprehension->Prop}{gs:List Comprehension}{k:Str->Expr->List Expr->Bool}(h:Tq gs k=true)(f:∀x p it fs,k x it fs=true->Q [⟨.Name x p,it,fs,0⟩]):Q gs:=
 Db h fun g h=>by
  obtain⟨t,it,fs,a⟩:=g
  exact bq (P:=fun a=>Q [⟨t,it,fs,a⟩]) (Ag h) (BF (P:=fun t=>Q [⟨t,it,fs,0⟩]) (Am h) fun x p h=>f x p it fs h)
noncomputable def xB(o:BoolOp)(e:Expr)(k:Expr->Expr->Bool):Bool:=K5 e fun op es p=>op==o&& @List.casesOn _ (fun J=>Bool) es false fun x r=> @List.casesOn _ (fun J=>Bool) r false fun y r=> @List.casesOn _ (fun J=>Bool) r (k x y) fun z r=>k x (.BoolOp o (y::z::r) p)
theorem Wp{o:BoolOp}{k:Expr->Expr->Bool}(h:xB o e k=true)(f:∀x y p,k x y=true->P (.BoolOp o [x,y] p))(g:∀x y z r p,k x (.BoolOp o (y::z::r) p)=true->P (.BoolOp o (x::y::z::r) p)):P e:=
 NF h fun op es p h=>bq (P:=fun op=>P (.BoolOp op es p)) (Ag h)<|by
  have h:=Am h
  cases es with
  | nil=>exact nf h
  | cons x r=>cases r with
   | nil=>exact nf h
   | cons y r=>cases r with
    | nil=>exact f x y p h
    | cons z r=>exact g x y z r p h
end
noncomputable def K0:List Nat->List Expr->Bool
 | [],es=>es.isEmpty
 | k::r,es=> @List.casesOn _ (fun J=>Bool) es false fun e es=>xK e (.str (wd k))&&K0 r es
noncomputable def Ri(ns:Dm)(Γ:List Str)(params:Arguments)(sc:Scope):Bool:=
 params.posonlyargs.isEmpty&&params.args.isEmpty&&params.vararg.isNone&&params.kwonlyargs.isEmpty&&params.kw_defaults.isEmpty&&params.kwarg.isNone&&params.defaults.isEmpty&&
 sc.kind== .function&& !sc.isCoroutine&& !sc.isGenerator&&(sc.names.all fun p=>p.2== .globalImplicit||p.2== .free&&ns.lookup p.1==some .cell&&Γ.contains p.1)
noncomputable def Ep(t:Bool)(e:Expr):Bool:= !t||(Rf e (fun J J J=>true)||G3 e)
noncomputable def Sg:Fn->Bool
 | .AU=>true
 | _=>false
mutual
noncomputable def B2(t k:Bool)(ns:Dm)(Γ:List Str):ME Fn->Expr->Bool
 | .O i,e=>Ep t e&&Dp e fun nm J=>Γ[i]? ==some nm&&D5 ns nm
 | .cst v,e=>Ep t e&&Fw e fun c J J=>V7 v c
 | .usub j,e=>Ep t e&&GG e fun op x J=>op== .USub&&xK x (.int (j:Int))
 | .gmax,e=>Ep t e&&xG ns e "MOST_LENGTH"
 | .attr m a,e=>Ep t e&&Ds e fun o nm J=>nm==wd a&&(CV.contains a&&A0 o&&B2 false k ns Γ m o)
 | .idx m i,e=>Ep t e&&DA e fun o sl J=>B2 false k ns Γ m o&&B2 false k ns Γ i sl
 | .cutTo m i,e=>Ep t e&&DA e fun o sl J=>Dp o (fun J J=>true)&&KH sl fun a b c J=>a.isNone&&c.isNone&&xo b fun j=>B2 false k ns Γ m o&&B2 false k ns Γ i j
 | .cutFrom m i,e=>Ep t e&&DA e fun o sl J=>Dp o (fun J J=>true)&&KH sl fun a b c J=>b.isNone&&c.isNone&&xo a fun j=>B2 false k ns Γ m o&&B2 false k ns Γ i j
 | .bin op a b,e=>Ep t e&&Ni e fun l o r J=>o==SK op&&(B2 false k ns Γ a l&&B2 false k ns Γ b r)
 | .cmp op a b,e=>Ep t e&&Rf e fun l o r=>o==LG op&&(!behindInMarks (LG op) r&&(B2 false k ns Γ a l&&B2 false k ns Γ b r))
 | .isNone neg m,e=>Ep t e&&Rf e fun l o r=>o==(if neg then .IsNot else .Is)&&(xK r .none&&B2 false k ns Γ m l)
 | .inW neg m ws,e=>Ep t e&&Rf e fun l o r=>o==(if neg then .NotIn else .In)&&G4 r fun es J J=>Nat.ble ws.length 100&&K0 ws es&&B2 false k ns Γ m l
 | .and2 a b,e=>xB .And e fun x y=>B2 t k ns Γ a x&&B2 t k ns Γ b y
 | .or2 a b,e=>xB .Or e fun x y=>B2 t k ns Γ a x&&B2 t k ns Γ b y
 | .not m,e=>GG e fun op x J=>op== .Not&&B2 t k ns Γ m x
 | .ite c a b,e=>M8 e fun ec ea eb J=>B2 true k ns Γ c ec&&(B2 t k ns Γ a ea&&B2 t k ns Γ b eb)
 | .lst ms,e=>Ep t e&&RH e fun es J=>es.all Ar&&NR k ns Γ ms es
 | .tup ms,e=>Ep t e&&G4 e fun es J J=>es.all Ar&&NR k ns Γ ms es
 | .dct0,e=>Ep t e&&LA e fun a b J=>a.isEmpty&&b.isEmpty
 | .dct0I,e=>Ep t e&&LA e fun a b J=>a.isEmpty&&b.isEmpty
 | .dct1 j m,e=>Ep t e&&LA e fun a b J=>x1 a fun o=>xo o fun c=>xK c (.str (wd j))&&x1 b fun x=>B2 false k ns Γ m x
 | .call f ms,e=>Ep t e&&xC ns e (Rt f) fun es=> !Lc f&& !OZ f&&(es.all Ar&&NR k ns Γ ms es)
 | .mk c ms,e=>Ep t e&&xC ns e (Str.ofString (FD c)) fun es=>es.all Ar&&NR k ns Γ ms es
 | .len m,e=>Ep t e&&WG ns e "len" fun x=>B2 false k ns Γ m x
 | .listOf m,e=>Ep t e&&WG ns e "list" fun x=>B2 false k ns Γ m x
 | .dictOf m,e=>Ep t e&&WG ns e "dict" fun x=>B2 false k ns Γ m x
 | .strOf m,e=>Ep t e&&WG ns e "str" fun x=>B2 false k ns Γ m x
 | .max2 a b,e=>Ep t e&&ZC ns e "max" fun x y=>Ar y&&(B2 false k ns Γ a x&&B2 false k ns Γ b y)
 | .isV m,e=>Ep t e&&ZC ns e "isinstance" fun x y=>xG ns y "Vector"&&B2 false k ns Γ m x
 | .isT m ty,e=>Ep t e&&ZC ns e "isinstance" fun x y=>xG ns y (Str.ofString (Hb ty))&&B2 false k ns Γ m x
 | .append o m,e=>Ep t e&&YR e "append" fun x y=>B2 false k ns Γ o x&&B2 false k ns Γ m y
 | .extend o m,e=>Ep t e&&YR e "extend" fun x y=>B2 false k ns Γ o x&&B2 false k ns Γ m y
 | .index o m,e=>Ep t e&&YR e "index" fun x y=>B2 false k ns Γ o x&&B2 false k ns Γ m y
 | .get1 o m,e=>Ep t e&&YR e "get" fun x y=>B2 false k ns Γ o x&&B2 false k ns Γ m y
 | .starts o m,e=>Ep t e&&YR e "startswith" fun x y=>B2 false k ns Γ o x&&B2 false k ns Γ m y
 | .get2 o m d,e=>Ep t e&&xM e "get" fun x es=>x2 es fun y z=>Ar y&&Ar z&&(B2 false k ns Γ o x&&(B2 false k ns Γ m y&&B2 false k ns Γ d z))
 | .pop o,e=>Ep t e&&bM e "pop" fun x=>B2 false k ns Γ o x
 | .reverse o,e=>Ep t e&&bM e "reverse" fun x=>B2 false k ns Γ o x
 | .mcall o f,e=>Ep t e&&(Sg f&&bM e "copy" fun x=>B2 false k ns Γ o x)
 | .comp m it,e=>Ep t e&&DW e fun elt gs sc J=>Tq gs fun x iter fs=>fs.isEmpty&&Hh ns Γ sc x&&(E0 iter&&B2 false k ns Γ it iter&&B2 false false (BW ns sc.names) (Γ++[x]) m elt)
 | .compR m it,e=>Ep t e&&DW e fun elt gs sc J=>Tq gs fun x iter fs=>fs.isEmpty&&Hh ns Γ sc x&&WG ns iter "range" fun a=>B2 false k ns Γ it a&&B2 false false (BW ns sc.names) (Γ++[x]) m elt
 | .compIf m c it,e=>Ep t e&&DW e fun elt gs sc J=>Tq gs fun x iter fs=>Hh ns Γ sc x&&x1 fs fun t=>WG ns iter "range" fun a=>B2 false k ns Γ it a&&(B2 false false (BW ns sc.names) (Γ++[x]) m elt&&B2 true false (BW ns sc.names) (Γ++[x]) c t)
 | .dcomp m it,e=>Ep t e&&FH e fun ke vx gs sc J=>Tq gs fun x iter fs=>fs.isEmpty&&Hh ns Γ sc x&&Dp ke fun y J=>y==x&&(E0 iter&&D5 (BW ns sc.names) x&&B2 false k ns Γ it iter&&B2 false false (BW ns sc.names) (Γ++[x]) m vx)
 | .kept m,e=>Ep t e&&(k&&xC ns e "_law_kept" fun es=>x1 es fun l=>KZ l fun params body sc J=>Ri ns Γ params sc&&B2 false false sc.names Γ m body)
 | .bad,_=>true
noncomputable def NR(k:Bool)(ns:Dm)(Γ:List Str):List (ME Fn)->List Expr->Bool
 | [],es=>es.isEmpty
 | m::ms,es=> @List.casesOn _ (fun J=>Bool) es false fun e r=>B2 false k ns Γ m e&&NR k ns Γ ms r
end
noncomputable def Jn(U:Un)(xc:Value)(C:Iv Fn)(A:Around)(X:Fx)(env:PySem.Env)(Γ:List Str)(ns:Dm)(n:Nat):Prop:=
 ∀(m:ME Fn) (params:Arguments) (body:Expr) (sc:Scope) (lp np pos:Pos),Df ns "_law_kept"=true->Ri ns Γ params sc=true->
  (∀A' X' Ai,Cx U A' X' Ai n->DI A' n 1->AJ X' Ai Ai sc.names->SE U xc C A' X' Ai Γ m body)->
  SE U xc C A X env Γ (.kept m) (.Call (.Name "_law_kept" np) [.Lambda params body sc lp] [] pos)
structure Al(U:Un)(xc:Value)(fa:Fn->Addr)(n:Nat)(C:Iv Fn):Prop where
 uf:UF U
 ug:UG U
 ub:UB U
 uc:UC U fa
 um:UM U fa
 bg:Rk C.bg
 Aa:C.Aa=U.Aa
 init:C.initOf=initOf
 gmx:∃t,nsIn U.K mainGlobals "MOST_LENGTH"=some (some (.int 1000000 t))
 ok:∀pin,Ht { U with pin:=pin} xc fa n C.call
 ue:∃Ce D fI cd,xc=.ref Ce/\UE U Ce D fI cd
theorem UF.pin(h:UF U){a:Addr}{o:Obj}:UF (U.pinAt a o):=⟨fun c x hx=>let⟨p,q,r⟩:=h.attr c x hx;⟨p,q,r⟩,h.dict,h.seta,h.over⟩
theorem UG.pin(h:UG U){a:Addr}{o:Obj}:UG (U.pinAt a o):=by cases h;constructor<;>assumption
theorem UB.pin(h:UB U){a:Addr}{o:Obj}:UB (U.pinAt a o):=⟨h.blt,h.cls⟩
theorem UC.pin(h:UC U fa){a:Addr}{o:Obj}:UC (U.pinAt a o) fa:=⟨h.glo,h.keep⟩
theorem UM.pin(h:UM U fa){a:Addr}{o:Obj}:UM (U.pinAt a o) fa:=⟨h.copyG,h.copyF,h.isFn,h.makes,h.init,h.high,h.keepC⟩
theorem UE.pin{Ce D fI:Addr}{cd:ClassData}(h:UE U Ce D fI cd){a:Addr}{o:Obj}:UE (U.pinAt a o) Ce D fI cd:=by cases h;constructor<;>assumption
theorem Al.pin(h:Al U xc fa n C){a:Addr}{o:Obj}:Al (U.pinAt a o) xc fa n C:=
 ⟨h.uf.pin,h.ug.pin,h.ub.pin,h.uc.pin,h.um.pin,h.bg,h.Aa,h.init,h.gmx,fun p=>h.ok p,let⟨a,b,c,d,e,f⟩:=h.ue;⟨a,b,c,d,e,f.pin⟩⟩
theorem Al.call(h:Al U xc fa n C):Ht U xc fa n C.call:=h.ok U.pin
theorem NI{M:Model}{l r:Expr}{o:CmpOp}{Q:Bool->Shared->Prop}(h:wpAny M A (eval (.Compare l [o] [r] pos) env) (fun c s=>wpAny M A (truthy c) Q E s) E s):wpAny M A (isTrue (.Compare l [o] [r] pos) env (eval (.Compare l [o] [r] pos) env)) Q E s:=by
 have e:isTrue (.Compare l [o] [r] pos) env (eval (.Compare l [o] [r] pos) env)=(eval (.Compare l [o] [r] pos) env >>= fun c=>holding [c] (truthy c)):=by
  rw[isTrue_Compare1,eval_Compare1]
  simp only [bind_assoc]
 rw[e]
 exact As (wpAny_mono h (fun c s' hc=>wpAny_holding hc) fun J J e=>e)
theorem Wj{t:Bool}{m:ME Fn}{e:Expr}(ht:Ep t e=true)(h:SE U xc C A X env Γ m e):SE U xc C A X env Γ m e/\(t=true->ST U xc C A X env Γ m e):=by
 refine⟨h,fun et=> ?_⟩
 subst et
 rcases(Bool.or_eq_true _ _).mp ht with ht | ht
 .exact nf ht
 .rcases (Bool.or_eq_true _ _).mp ht with ht | ht
  .refine HV (P:=fun e=>SE U xc C A X env Γ m e->ST U xc C A X env Γ m e) ht (fun l o r p J h=> ?_) h
   intro ρ H s vs Q E x eo hp
   refine NI (wpAny_mono (h ρ H s vs _ E x eo (Jr hp)) (fun v s' hv=> ?_) fun J J e=>e)
   obtain⟨t,rfl,hq⟩:=hv
   exact wpAny_truthy_bool hq
  .exact Tg ht h
theorem J4:∀{ws:List Nat} {es:List Expr},K0 ws es=true->OS U xc C A X env Γ (ws.map fun k=> .cst (.w k)) es
 | [],_,h=>e0 (P:=OS U xc C A X env Γ []) h Ks
 | _::_,[],h=>nf h
 | k::r,e::es,h=>LB (P:=fun e=>OS U xc C A X env Γ (.cst (.w k)::r.map fun k=> .cst (.w k)) (e::es)) (Ag h) fun j p=>Jm rfl (Rp (beq_iff_eq.mpr rfl)) (J4 (Am h))
noncomputable def G5(e:Expr)(env:PySem.Env):Option (Value->Sem Unit)->Sem Value:=match e with
 | .ListComp elt gens sc p=>Eg sc gens p (.ListComp elt gens sc p) (newList []) env
 | .DictComp kx vx gens sc p=>Eg sc gens p (.DictComp kx vx gens sc p) newDict env
 | _=>fun J=>pure .none
structure Ge where
 U:Un
 xc:Value
 fa:Fn->Addr
 n:Nat
 C:Iv Fn
 A:Around
 X:Fx
 Ad:PySem.Env
 env:PySem.Env
structure Pk(k:Bool)(ns:Dm)(Γ:List Str)(G:Ge):Prop where
 al:Al G.U G.xc G.fa G.n G.C
 cx:Cx G.U G.A G.X G.Ad G.n
 rm:DI G.A G.n 1
 ek:AJ G.X G.Ad G.env ns
 kr:k=true->Jn G.U G.xc G.C G.A G.X G.env Γ ns G.n
noncomputable abbrev V8(G:Ge)(Γ:List Str)(m:ME Fn)(e:Expr):Prop:=SE G.U G.xc G.C G.A G.X G.env Γ m e
noncomputable abbrev hW(G:Ge)(Γ:List Str)(m:ME Fn)(e:Expr):Prop:=ST G.U G.xc G.C G.A G.X G.env Γ m e
noncomputable def WH(k:Bool)(ns:Dm)(Γ:List Str)(t:Bool)(m:ME Fn)(e:Expr):Prop:=∀G:Ge,Pk k ns Γ G->V8 G Γ m e/\(t=true->hW G Γ m e)
noncomputable def A2(k:Bool)(ns:Dm)(Γ:List Str)(m:ME Fn)(e:Expr):Prop:=∀G:Ge,Pk k ns Γ G->V8 G Γ m e
noncomputable def Fb(k:Bool)(ns:Dm)(Γ:List Str)(m:ME Fn)(e:Expr):Prop:=∀G:Ge,Pk k ns Γ G->Tw G.U G.xc G.C G.A G.X G.env Γ m (G5 e G.env)/\V8 G Γ m e
noncomputable abbrev AW(m:ME Fn):Prop:=∀(t k:Bool) (ns:Dm) (Γ:List Str) (e:Expr),B2 t k ns Γ m e=true->WH k ns Γ t m e
noncomputable def dO(ms:List (ME Fn)):Prop:=∀(k:Bool) (ns:Dm) (Γ:List Str) (es:List Expr),es.all Ar=true->NR k ns Γ ms es=true->∀G:Ge,Pk k ns Γ G->OS G.U G.xc G.C G.A G.X G.env Γ ms es
theorem BI{m:ME Fn}(h:AW m){k:Bool}{ns:Dm}{Γ:List Str}{e:Expr}(o:B2 false k ns Γ m e=true){G:Ge}(g:Pk k ns Γ G):V8 G Γ m e:=(h _ _ _ _ _ o G g).1
theorem pl{k t:Bool}{ns:Dm}{Γ:List Str}{m:ME Fn}{e:Expr}{b:Bool}(h:(Ep t e&&b)=true)(f:b=true->A2 k ns Γ m e):WH k ns Γ t m e:=fun G g=>Wj (Ag h) (f (Am h) G g)
theorem bC{k t:Bool}{ns:Dm}{Γ:List Str}{m:ME Fn}{e:Expr}(h:Ep t e=true)(f:Fb k ns Γ m e):WH k ns Γ t m e:=fun G g=>Wj h (f G g).2
theorem Oa{elt:Expr}{gens:List Comprehension}{sc:Scope}{m:ME Fn}(h:Tw U xc C A X env Γ m (Eg sc gens pos (.ListComp elt gens sc pos) (newList []) env)):Tw U xc C A X env Γ m (G5 (.ListComp elt gens sc pos) env)/\SE U xc C A X env Γ m (.ListComp elt gens sc pos):=by
 refine⟨h,?_⟩
 intro ρ H s vs Q E x eo hp
 rw[eval_ListComp]
 exact h ρ H s vs none Q Q E x eo hp fun J J J J=>Mi
theorem W8{kx vx:Expr}{gens:List Comprehension}{sc:Scope}{m:ME Fn}(h:Tw U xc C A X env Γ m (Eg sc gens pos (.DictComp kx vx gens sc pos) newDict env)):Tw U xc C A X env Γ m (G5 (.DictComp kx vx gens sc pos) env)/\SE U xc C A X env Γ m (.DictComp kx vx gens sc pos):=by
 refine⟨h,?_⟩
 intro ρ H s vs Q E x eo hp
 rw[arm_eval_DictComp]
 exact h ρ H s vs none Q Q E x eo hp fun J J J J=>Mi
theorem Pk.at{k:Bool}{ns ns':Dm}{Γ Γ':List Str}{G:Ge}(g:Pk k ns Γ G){X':Fx}{Ai:PySem.Env}(cx:Cx G.U G.A X' G.Ad G.n)(ek:AJ X' G.Ad Ai ns'):Pk false ns' Γ' { G with X:=X',env:=Ai}:=⟨g.al,cx,g.rm,ek,fun q=>nf q⟩
theorem OQ{k t:Bool}{ns:Dm}{Γ:List Str}{m it:ME Fn}{e:Expr}(hm:AW m)(hi:AW it)(h:B2 t k ns Γ (.comp m it) e=true):Fb k ns Γ (.comp m it) e:=
 DR (Am h) fun elt gs sc p h=>Ia (Q:=fun gs=>Fb k ns Γ (.comp m it) (.ListComp elt gs sc p)) h fun x px iter fs h=>e0 (P:=fun fs=>Fb k ns Γ (.comp m it) (.ListComp elt [⟨.Name x px,iter,fs,0⟩] sc p)) (Ag (Ag h)) fun G g=>
  Oa (N5 g.cx g.ek (Fv (Am (Ag h))) (Ag (Ag (Am h))) (BI hi (Am (Ag (Am h))) g) fun X' Ai cx' ek'=>BI hm (Am (Am h)) (g.at cx' ek'))
theorem LF{k t:Bool}{ns:Dm}{Γ:List Str}{m it:ME Fn}{e:Expr}(hm:AW m)(hi:AW it)(h:B2 t k ns Γ (.compR m it) e=true):Fb k ns Γ (.compR m it) e:=
 DR (Am h) fun elt gs sc p h=>Ia (Q:=fun gs=>Fb k ns Γ (.compR m it) (.ListComp elt gs sc p)) h fun x px iter fs h=>e0 (P:=fun fs=>Fb k ns Γ (.compR m it) (.ListComp elt [⟨.Name x px,iter,fs,0⟩] sc p)) (Ag (Ag h))
  (FZ (P:=fun iter=>Fb k ns Γ (.compR m it) (.ListComp elt [⟨.Name x px,iter,[],0⟩] sc p)) (Am h) fun p2 a q hg hs ho G g=>
  Oa (MI g.cx g.ek g.al.ub (Fv (Am (Ag h))) hg hs (BI hi (Ag ho) g) fun X' Ai cx' ek'=>BI hm (Am ho) (g.at cx' ek')))
theorem VU{k t:Bool}{ns:Dm}{Γ:List Str}{m c it:ME Fn}{e:Expr}(hm:AW m)(hc:AW c)(hi:AW it)(h:B2 t k ns Γ (.compIf m c it) e=true):Fb k ns Γ (.compIf m c it) e:=
 DR (Am h) fun elt gs sc p h=>Ia (Q:=fun gs=>Fb k ns Γ (.compIf m c it) (.ListComp elt gs sc p)) h fun x px iter fs h=>Db (P:=fun fs=>Fb k ns Γ (.compIf m c it) (.ListComp elt [⟨.Name x px,iter,fs,0⟩] sc p)) (Am h) fun f hf=>
  FZ (P:=fun iter=>Fb k ns Γ (.compIf m c it) (.ListComp elt [⟨.Name x px,iter,[f],0⟩] sc p)) hf fun p2 a q hg hs ho G g=>
  Oa (QO g.cx g.ek g.al.ub (Fv (Ag h)) hg hs (BI hi (Ag ho) g) (fun X' Ai cx' ek'=>BI hm (Ag (Am ho)) (g.at cx' ek')) fun X' Ai cx' ek'=>(hc _ _ _ _ _ (Am (Am ho)) _ (g.at cx' ek')).2 rfl)
theorem OA{k t:Bool}{ns:Dm}{Γ:List Str}{m it:ME Fn}{e:Expr}(hm:AW m)(hi:AW it)(h:B2 t k ns Γ (.dcomp m it) e=true):Fb k ns Γ (.dcomp m it) e:=
 GO (Am h) fun ke vx gs sc p h=>Ia (Q:=fun gs=>Fb k ns Γ (.dcomp m it) (.DictComp ke vx gs sc p)) h fun x px iter fs h=>e0 (P:=fun fs=>Fb k ns Γ (.dcomp m it) (.DictComp ke vx [⟨.Name x px,iter,fs,0⟩] sc p)) (Ag (Ag h))
  (BF (P:=fun ke=>Fb k ns Γ (.dcomp m it) (.DictComp ke vx [⟨.Name x px,iter,[],0⟩] sc p)) (Am h) fun y py ho G g=>
  W8 (NB g.cx g.ek (Fv (Am (Ag h))) (Ag (Ag (Ag (Am ho)))) ⟨py,by rw[eq_of_beq (Ag ho)]⟩ (Am (Ag (Ag (Am ho)))) (BI hi (Am (Ag (Am ho))) g) fun a o X' Ai cx' ek'=>BI (G:={ G with U:=G.U.pinAt a o,X:=X',env:=Ai}) hm (Am (Am ho)) ⟨g.al.pin,cx',g.rm,ek',fun q=>nf q⟩))
theorem gQ{f:Fn}(h:Sg f=true){P:Fn->Prop}(p:P .AU):P f:=by
 refine XA h ?_;clear h
 cases f<;>first | exact p | exact True.intro
theorem NT{α:Type}[BEq α][LawfulBEq α]{a:α}{l:List α}(h:l.contains a=true):a ∈ l:=List.contains_iff_mem.mp h
mutual
theorem Ab:∀m:ME Fn,AW m
 | .O i=>fun t k ns Γ e h=>pl h fun h=>BF (P:=A2 k ns Γ (.O i)) h fun nm p h G g=>QR g.ek (eq_of_beq (Ag h)) (Am h)
 | .cst v=>fun t k ns Γ e h=>pl h fun h=>Gn (P:=A2 k ns Γ (.cst v)) h fun c j p h G g=>Rp h
 | .usub j=>fun t k ns Γ e h=>pl h fun h=>Hy (P:=A2 k ns Γ (.usub j)) h fun op x p h=>bq (P:=fun op=>A2 k ns Γ (.usub j) (.UnaryOp op x p)) (Ag h) (LB (P:=fun x=>A2 k ns Γ (.usub j) (.UnaryOp .USub x p)) (Am h) fun J J G g=>UN)
 | .gmax=>fun t k ns Γ e h=>pl h fun h=>ON (P:=A2 k ns Γ .gmax) h fun p hg G g=>by
  obtain⟨t0,hm⟩:=g.al.gmx
  exact Tz g.ek g.cx.gf hg hm
 | .attr m a=>fun t k ns Γ e h=>pl h fun h=>DC (P:=A2 k ns Γ (.attr m a)) h fun o nm p h=>bq (P:=fun nm=>A2 k ns Γ (.attr m a) (.Attribute o nm p)) (Ag h) fun G g=>Vl g.al.uf g.cx (NT (Ag (Ag (Am h)))) (Am (Ag (Am h))) (BI (Ab m) (Am (Am h)) g)
 | .idx m i=>fun t k ns Γ e h=>pl h fun h=>DB (P:=A2 k ns Γ (.idx m i)) h fun o sl p h G g=>XU (BI (Ab m) (Ag h) g) (BI (Ab i) (Am h) g)
 | .cutTo m i=>fun t k ns Γ e h=>pl h fun h=>DB (P:=A2 k ns Γ (.cutTo m i)) h fun o sl p h=>J6 (P:=fun sl=>A2 k ns Γ (.cutTo m i) (.Subscript o sl p)) (Am h) fun a b c q h2=>
  HA (P:=fun a=>A2 k ns Γ (.cutTo m i) (.Subscript o (.Slice a b c q) p)) (Ag (Ag h2)) (HA (P:=fun c=>A2 k ns Γ (.cutTo m i) (.Subscript o (.Slice none b c q) p)) (Am (Ag h2)) (FT (P:=fun b=>A2 k ns Γ (.cutTo m i) (.Subscript o (.Slice none b none q) p)) (Am h2) fun j h3 G g=>
  BF (P:=fun o=>V8 G Γ m o->V8 G Γ (.cutTo m i) (.Subscript o (.Slice none (some j) none q) p)) (Ag h) (fun nm p1 J ho=>SA g.al.Aa g.cx.gf ho (BI (Ab i) (Am h3) g)) (BI (Ab m) (Ag h3) g)))
 | .cutFrom m i=>fun t k ns Γ e h=>pl h fun h=>DB (P:=A2 k ns Γ (.cutFrom m i)) h fun o sl p h=>J6 (P:=fun sl=>A2 k ns Γ (.cutFrom m i) (.Subscript o sl p)) (Am h) fun a b c q h2=>
  HA (P:=fun b=>A2 k ns Γ (.cutFrom m i) (.Subscript o (.Slice a b c q) p)) (Ag (Ag h2)) (HA (P:=fun c=>A2 k ns Γ (.cutFrom m i) (.Subscript o (.Slice a none c q) p)) (Am (Ag h2)) (FT (P:=fun a=>A2 k ns Γ (.cutFrom m i) (.Subscript o (.Slice a none none q) p)) (Am h2) fun j h3 G g=>
  BF (P:=fun o=>V8 G Γ m o->V8 G Γ (.cutFrom m i) (.Subscript o (.Slice (some j) none none q) p)) (Ag h) (fun nm p1 J ho=>Nm g.cx.gf ho (BI (Ab i) (Am h3) g)) (BI (Ab m) (Ag h3) g)))
 | .bin op a b=>fun t k ns Γ e h=>pl h fun h=>Pw (P:=A2 k ns Γ (.bin op a b)) h fun l o r p h=>bq (P:=fun o=>A2 k ns Γ (.bin op a b) (.BinOp l o r p)) (Ag h) fun G g=>Xm g.cx (BI (Ab a) (Ag (Am h)) g) (BI (Ab b) (Am (Am h)) g)
 | .cmp op a b=>fun t k ns Γ e h=>pl h fun h=>HV (P:=A2 k ns Γ (.cmp op a b)) h fun l o r p h=>bq (P:=fun o=>A2 k ns Γ (.cmp op a b) (.Compare l [o] [r] p)) (Ag h) fun G g=>X9 g.cx (nt (Ag (Am h))) (BI (Ab a) (Ag (Am (Am h))) g) (BI (Ab b) (Am (Am (Am h))) g)
 | .isNone neg m=>fun t k ns Γ e h=>pl h fun h=>HV (P:=A2 k ns Γ (.isNone neg m)) h fun l o r p h=>bq (P:=fun o=>A2 k ns Γ (.isNone neg m) (.Compare l [o] [r] p)) (Ag h) (LB (P:=fun r=>A2 k ns Γ (.isNone neg m) (.Compare l [if neg then .IsNot else .Is] [r] p)) (Ag (Am h)) fun J J G g=>Qd (BI (Ab m) (Am (Am h)) g))
 | .inW neg m ws=>fun t k ns Γ e h=>pl h fun h=>HV (P:=A2 k ns Γ (.inW neg m ws)) h fun l o r p h=>bq (P:=fun o=>A2 k ns Γ (.inW neg m ws) (.Compare l [o] [r] p)) (Ag h) (Fz (P:=fun r=>A2 k ns Γ (.inW neg m ws) (.Compare l [if neg then .NotIn else .In] [r] p)) (Am h) fun es j q h G g=>Yo (Nat.le_of_ble_eq_true (Ag (Ag h))) (BI (Ab m) (Am h) g) (J4 (Am (Ag h))))
 | .and2 a b=>fun t k ns Γ e h=>Wp (P:=WH k ns Γ t (.and2 a b)) h
  (fun x y p h G g=>⟨Oy (t:=true) (Ab a _ _ _ _ _ (Ag h) G g).1 (O9 (Ab b _ _ _ _ _ (Am h) G g).1),fun et=>Pi (t:=true) ((Ab a _ _ _ _ _ (Ag h) G g).2 et) (O7 (t:=true) ((Ab b _ _ _ _ _ (Am h) G g).2 et))⟩)
  fun x y z r p h G g=>⟨Oy (t:=true) (Ab a _ _ _ _ _ (Ag h) G g).1 (L4 (Ab b _ _ _ _ _ (Am h) G g).1),fun et=>Pi (t:=true) ((Ab a _ _ _ _ _ (Ag h) G g).2 et) (Ly ((Ab b _ _ _ _ _ (Am h) G g).2 et))⟩
 | .or2 a b=>fun t k ns Γ e h=>Wp (P:=WH k ns Γ t (.or2 a b)) h
  (fun x y p h G g=>⟨Oy (t:=false) (Ab a _ _ _ _ _ (Ag h) G g).1 (O9 (Ab b _ _ _ _ _ (Am h) G g).1),fun et=>Pi (t:=false) ((Ab a _ _ _ _ _ (Ag h) G g).2 et) (O7 (t:=false) ((Ab b _ _ _ _ _ (Am h) G g).2 et))⟩)
  fun x y z r p h G g=>⟨Oy (t:=false) (Ab a _ _ _ _ _ (Ag h) G g).1 (L4 (Ab b _ _ _ _ _ (Am h) G g).1),fun et=>Pi (t:=false) ((Ab a _ _ _ _ _ (Ag h) G g).2 et) (Ly ((Ab b _ _ _ _ _ (Am h) G g).2 et))⟩
 | .not m=>fun t k ns Γ e h=>Hy (P:=WH k ns Γ t (.not m)) h fun op x p h=>bq (P:=fun op=>WH k ns Γ t (.not m) (.UnaryOp op x p)) (Ag h) fun G g=>⟨Xi (Ab m _ _ _ _ _ (Am h) G g).1,fun et=>W7 ((Ab m _ _ _ _ _ (Am h) G g).2 et)⟩
 | .ite c a b=>fun t k ns Γ e h=>PT (P:=WH k ns Γ t (.ite c a b)) h fun ec ea eb p h G g=>⟨Yp ((Ab c _ _ _ _ _ (Ag h) G g).2 rfl) (Ab a _ _ _ _ _ (Ag (Am h)) G g).1 (Ab b _ _ _ _ _ (Am (Am h)) G g).1,fun et=>XJ ((Ab c _ _ _ _ _ (Ag h) G g).2 rfl) ((Ab a _ _ _ _ _ (Ag (Am h)) G g).2 et) ((Ab b _ _ _ _ _ (Am (Am h)) G g).2 et)⟩
 | .lst ms=>fun t k ns Γ e h=>pl h fun h=>QL (P:=A2 k ns Γ (.lst ms)) h fun es p h G g=>WR g.cx.gf (Eb ms _ _ _ _ (Ag h) (Am h) G g)
 | .tup ms=>fun t k ns Γ e h=>pl h fun h=>Fz (P:=A2 k ns Γ (.tup ms)) h fun es J p h G g=>WN g.cx.gf (Eb ms _ _ _ _ (Ag h) (Am h) G g)
 | .dct0=>fun t k ns Γ e h=>pl h fun h=>Ip (P:=A2 k ns Γ .dct0) h fun a b p h=>e0 (P:=fun a=>A2 k ns Γ .dct0 (.Dict a b p)) (Ag h) (e0 (P:=fun b=>A2 k ns Γ .dct0 (.Dict [] b p)) (Am h) fun G g=>UQ g.cx.gf)
 | .dct0I=>fun t k ns Γ e h=>pl h fun h=>Ip (P:=A2 k ns Γ .dct0I) h fun a b p h=>e0 (P:=fun a=>A2 k ns Γ .dct0I (.Dict a b p)) (Ag h) (e0 (P:=fun b=>A2 k ns Γ .dct0I (.Dict [] b p)) (Am h) fun G g=>Ra g.cx.gf)
 | .dct1 j m=>fun t k ns Γ e h=>pl h fun h=>Ip (P:=A2 k ns Γ (.dct1 j m)) h fun a b p h=>Db (P:=fun a=>A2 k ns Γ (.dct1 j m) (.Dict a b p)) h fun o h=>FT (P:=fun o=>A2 k ns Γ (.dct1 j m) (.Dict [o] b p)) h fun c h=>
  LB (P:=fun c=>A2 k ns Γ (.dct1 j m) (.Dict [some c] b p)) (Ag h) fun i q=>Db (P:=fun b=>A2 k ns Γ (.dct1 j m) (.Dict [some (.Constant (.str (wd j)) i q)] b p)) (Am h) fun x h G g=>TL g.cx.gf (BI (Ab m) h g)
 | .call f ms=>fun t k ns Γ e h=>pl h fun h=>Kf (P:=A2 k ns Γ (.call f ms)) h fun p es q hg h G g=>Uw g.al.uc g.cx g.ek g.al.call hg (nt (Ag (Ag h))) (nt (Am (Ag h))) (Ag (Am h)) (Eb ms _ _ _ _ (Ag (Am h)) (Am (Am h)) G g)
 | .mk c ms=>fun t k ns Γ e h=>pl h fun h=>Kf (P:=A2 k ns Γ (.mk c ms)) h fun p es q hg h G g=>YW g.al.um g.al.ub g.cx g.rm g.ek g.al.call g.al.init hg (Ag h) (Eb ms _ _ _ _ (Ag h) (Am h) G g)
 | .len m=>fun t k ns Γ e h=>pl h fun h=>FZ (P:=A2 k ns Γ (.len m)) h fun p x q hg hs h G g=>YE g.ek g.cx.gf g.al.ub hg hs (BI (Ab m) h g)
 | .listOf m=>fun t k ns Γ e h=>pl h fun h=>FZ (P:=A2 k ns Γ (.listOf m)) h fun p x q hg hs h G g=>PE g.ek g.cx.gf g.al.ub hg hs (BI (Ab m) h g)
 | .dictOf m=>fun t k ns Γ e h=>pl h fun h=>FZ (P:=A2 k ns Γ (.dictOf m)) h fun p x q hg hs h G g=>Pz g.ek g.cx.gf g.al.ub hg hs (BI (Ab m) h g)
 | .strOf m=>fun t k ns Γ e h=>pl h fun h=>FZ (P:=A2 k ns Γ (.strOf m)) h fun p x q hg hs h G g=>R2 g.ek g.cx.gf g.al.ub hg hs (BI (Ab m) h g)
 | .max2 a b=>fun t k ns Γ e h=>pl h fun h=>KO (P:=A2 k ns Γ (.max2 a b)) h fun p x y q hg hs h G g=>Vu g.cx g.ek g.al.ub hg hs (Ag h) (BI (Ab a) (Ag (Am h)) g) (BI (Ab b) (Am (Am h)) g)
 | .isV m=>fun t k ns Γ e h=>pl h fun h=>KO (P:=A2 k ns Γ (.isV m)) h fun p x y q hg hs h=>ON (P:=fun y=>A2 k ns Γ (.isV m) (.Call (.Name "isinstance" p) [x,y] [] q)) (Ag h) fun p2 hg2 G g=>Xq g.cx.gf g.ek g.al.ub hg hg2 hs (BI (Ab m) (Am h) g)
 | .isT m ty=>fun t k ns Γ e h=>pl h fun h=>KO (P:=A2 k ns Γ (.isT m ty)) h fun p x y q hg hs h=>ON (P:=fun y=>A2 k ns Γ (.isT m ty) (.Call (.Name "isinstance" p) [x,y] [] q)) (Ag h) fun p2 hg2 G g=>Xd g.al.uf g.al.ug g.cx.gf g.ek g.al.ub hg hg2 hs (BI (Ab m) (Am h) g)
 | .append o m=>fun t k ns Γ e h=>pl h fun h=>Jk (P:=A2 k ns Γ (.append o m)) h fun x ap y p h1 h2 h3 h G g=>PS h1 h2 h3 (BI (Ab o) (Ag h) g) (BI (Ab m) (Am h) g)
 | .extend o m=>fun t k ns Γ e h=>pl h fun h=>Jk (P:=A2 k ns Γ (.extend o m)) h fun x ap y p h1 h2 h3 h G g=>P5 h1 h2 h3 (BI (Ab o) (Ag h) g) (BI (Ab m) (Am h) g)
 | .index o m=>fun t k ns Γ e h=>pl h fun h=>Jk (P:=A2 k ns Γ (.index o m)) h fun x ap y p h1 h2 h3 h G g=>Ts h1 h2 h3 (BI (Ab o) (Ag h) g) (BI (Ab m) (Am h) g)
 | .get1 o m=>fun t k ns Γ e h=>pl h fun h=>Jk (P:=A2 k ns Γ (.get1 o m)) h fun x ap y p h1 h2 h3 h G g=>UL h1 h2 h3 (BI (Ab o) (Ag h) g) (BI (Ab m) (Am h) g)
 | .starts o m=>fun t k ns Γ e h=>pl h fun h=>Jk (P:=A2 k ns Γ (.starts o m)) h fun x ap y p h1 h2 h3 h G g=>PF g.al.bg h1 h2 h3 (BI (Ab o) (Ag h) g) (BI (Ab m) (Am h) g)
 | .get2 o m d=>fun t k ns Γ e h=>pl h fun h=>Rq (P:=A2 k ns Γ (.get2 o m d)) h fun x ap es p h1 h2 h=>J1 (P:=fun es=>A2 k ns Γ (.get2 o m d) (.Call (.Attribute x "get" ap) es [] p)) h fun y z h G g=>UO h1 h2 (Ag (Ag h)) (Am (Ag h)) (BI (Ab o) (Ag (Am h)) g) (BI (Ab m) (Ag (Am (Am h))) g) (BI (Ab d) (Am (Am (Am h))) g)
 | .pop o=>fun t k ns Γ e h=>pl h fun h=>M3 (P:=A2 k ns Γ (.pop o)) h fun x ap p h1 h2 h G g=>WU h1 h2 (BI (Ab o) h g)
 | .reverse o=>fun t k ns Γ e h=>pl h fun h=>M3 (P:=A2 k ns Γ (.reverse o)) h fun x ap p h1 h2 h G g=>NV h1 h2 (BI (Ab o) h g)
 | .mcall o f=>fun t k ns Γ e h=>pl h fun h=>gQ (Ag h) (P:=fun f=>A2 k ns Γ (.mcall o f) e) (M3 (P:=A2 k ns Γ (.mcall o .AU)) (Am h) fun x ap p h1 h2 h G g=>Vk g.al.uc g.al.um g.cx g.al.call h1 h2 (BI (Ab o) h g))
 | .comp m it=>fun t k ns Γ e h=>bC (Ag h) (OQ (Ab m) (Ab it) h)
 | .compR m it=>fun t k ns Γ e h=>bC (Ag h) (LF (Ab m) (Ab it) h)
 | .compIf m c it=>fun t k ns Γ e h=>bC (Ag h) (VU (Ab m) (Ab c) (Ab it) h)
 | .dcomp m it=>fun t k ns Γ e h=>bC (Ag h) (OA (Ab m) (Ab it) h)
 | .kept m=>fun t k ns Γ e h=>pl h fun h=>Kf (P:=A2 k ns Γ (.kept m)) (Am h) fun p es q hg h2=>Db (P:=fun es=>A2 k ns Γ (.kept m) (.Call (.Name "_law_kept" p) es [] q)) h2 fun l h2=>Nf (P:=fun l=>A2 k ns Γ (.kept m) (.Call (.Name "_law_kept" p) [l] [] q)) h2 fun params body sc lp h2 G g=>
  g.kr (Ag h) m _ _ _ _ _ _ hg (Ag h2) fun A' X' Ai cx' rm' ek'=>BI (G:={ G with A:=A',X:=X',Ad:=Ai,env:=Ai}) (Ab m) (Am h2) ⟨g.al,cx',rm',ek',fun q=>nf q⟩
 | .bad=>fun t k ns Γ e h G g=>by
  have e0:∀vs H,Ac G.C (.bad:ME Fn) vs H=.bad:=fun vs H=>rfl
  exact⟨fun ρ H s vs Q E x eo hp=>by rw[e0]at hp;exact hp.elim,fun J ρ H s vs Q E x eo hp=>by unfold bnd at hp;rw[e0]at hp;exact hp.elim⟩
theorem Eb:∀ms:List (ME Fn),dO ms
 | []=>fun k ns Γ es hs h G g=>e0 (P:=OS G.U G.xc G.C G.A G.X G.env Γ []) h Ks
 | m::ms=>fun k ns Γ es=> @List.casesOn _ (fun es=>es.all Ar=true->NR k ns Γ (m::ms) es=true->∀G:Ge,Pk k ns Γ G->OS G.U G.xc G.C G.A G.X G.env Γ (m::ms) es) es (fun J h=>nf h) fun e r hs h G g=>Jm (Ag hs) (BI (Ab m) (Ag h) g) (Eb ms _ _ _ _ (Am hs) (Am h) G g)
end
noncomputable def Nj(ns:Dm)(nm:Str)(px p:Pos)(sc:Scope):Bool:=ns.lookup nm==some .local&&px.line==p.line&& !(sc.names.any fun(n,k)=>n==nm&&(k== .local||k== .cell))
noncomputable def Oo(ns:Dm)(Γ:List Str):List Nat->List Expr->Bool
 | [],es=>es.isEmpty
 | i::is,es=> @List.casesOn _ (fun J=>Bool) es false fun e es=>Dp e (fun nm J=>Γ[i]? ==some nm&&A1 ns nm)&&Oo ns Γ is es
noncomputable def Q5(m:MS Fn):Bool:= @MS.casesOn Fn (fun J=>Bool) m (fun J J=>false) (fun J J=>false) (fun J J J=>false) (fun J J J=>false) (fun J J=>false) (fun J=>false) (fun J=>false) false (fun J J J=>false) (fun J J J=>false) (fun J J J J=>false) (fun J J J=>false) (fun J J J=>false) (fun J=>false) true
theorem QN{P:MS Fn->Prop}{m:MS Fn}(h:Q5 m=true)(p:P .bad):P m:= @MS.casesOn Fn (fun m=>Q5 m=true->P m) m (fun J J=>nf) (fun J J=>nf) (fun J J J=>nf) (fun J J J=>nf) (fun J J=>nf) (fun J=>nf) (fun J=>nf) nf (fun J J J=>nf) (fun J J J=>nf) (fun J J J J=>nf) (fun J J J=>nf) (fun J J J=>nf) (fun J=>nf) (fun J=>p) h
noncomputable def Ze(m:ME Fn):Bool:= @ME.casesOn Fn (fun J=>Bool) m (fun J=>false) (fun J=>false) (fun J=>false) false (fun J J=>false) (fun J J=>false) (fun J J=>false) (fun J J=>false) (fun J J J=>false) (fun J J J=>false) (fun J J=>false) (fun J J J=>false) (fun J J=>false) (fun J J=>false) (fun J=>false) (fun J J J=>false) (fun J=>false) (fun J=>false) false false (fun J J=>false) (fun J J=>false) (fun J J=>false) (fun J=>false) (fun J=>false) (fun J=>false) (fun J=>false) (fun J J=>false) (fun J=>false) (fun J J=>false) (fun J J=>false) (fun J J=>false) (fun J=>false) (fun J=>false) (fun J J=>false) (fun J J=>false) (fun J J J=>false) (fun J J=>false) (fun J J=>false) (fun J J=>true) (fun J J=>true) (fun J J J=>true) (fun J J=>true) (fun J=>false) false
theorem WL{P:ME Fn->Prop}{m:ME Fn}(h:Ze m=true)(f1:∀a b,P (.comp a b))(f2:∀a b,P (.compR a b))(f3:∀a b c,P (.compIf a b c))(f4:∀a b,P (.dcomp a b)):P m:= @ME.casesOn Fn (fun m=>Ze m=true->P m) m (fun J=>nf) (fun J=>nf) (fun J=>nf) nf (fun J J=>nf) (fun J J=>nf) (fun J J=>nf) (fun J J=>nf) (fun J J J=>nf) (fun J J J=>nf) (fun J J=>nf) (fun J J J=>nf) (fun J J=>nf) (fun J J=>nf) (fun J=>nf) (fun J J J=>nf) (fun J=>nf) (fun J=>nf) nf nf (fun J J=>nf) (fun J J=>nf) (fun J J=>nf) (fun J=>nf) (fun J=>nf) (fun J=>nf) (fun J=>nf) (fun J J=>nf) (fun J=>nf) (fun J J=>nf) (fun J J=>nf) (fun J J=>nf) (fun J=>nf) (fun J=>nf) (fun J J=>nf) (fun J J=>nf) (fun J J J=>nf) (fun J J=>nf) (fun J J=>nf) (fun a b J=>f1 a b) (fun a b J=>f2 a b) (fun a b c J=>f3 a b c) (fun a b J=>f4 a b) (fun J=>nf) nf h
noncomputable def eW(ns:Dm)(nm:Str)(px:Pos)(e:Expr):Bool:=DW e (fun J J sc p=>Nj ns nm px p sc)||FH e (fun J J J sc p=>Nj ns nm px p sc)
noncomputable def Zl(ns:Dm)(Γ:List Str)(is:List Nat)(ts:List Expr)(e:Expr):Bool:=x2 is fun i j=>x2 ts fun ta tb=>Dp ta fun a pa=>Dp tb fun b pb=>G4 e fun vs J J=>x2 vs fun v1 v2=>
 (Ar v1&&Ar v2)&&(ns.lookup a==some .local&&ns.lookup b==some .local)&&(pb.line==pa.line&&a != b)&&(!([v1,v2].all (foldedForSure 8))&& !([v1,v2].all (constantsAlone 8)))&&(i != j&&(Γ[i]? ==some a&&Γ[j]? ==some b))
mutual
noncomputable def fJ(k:Bool)(ns:Dm)(Γ:List Str):MS Fn->Stmt->Bool
 | .asg i m,st=>EN st fun ts e J=>x1 ts fun t=>Dp t fun nm px=>Γ[i]? ==some nm&&B2 false k ns Γ m e&&(eW ns nm px e&&Ze m||DO e&&A1 ns nm)
 | .asgT is m,st=>EN st fun ts e J=>x1 ts fun t=>G4 t fun es J J=>B2 false k ns Γ m e&&(Zl ns Γ is es e||N6 e&&Oo ns Γ is es)
 | .setA o a m,st=>EN st fun ts e J=>x1 ts fun t=>Ds t fun x nm J=>nm==wd a&&(CV.contains a&&DO e&&(B2 false k ns Γ m e&&B2 false k ns Γ o x))
 | .setI o i m,st=>EN st fun ts e J=>x1 ts fun t=>DA t fun x j J=>DO e&&(B2 false k ns Γ m e&&(B2 false k ns Γ o x&&B2 false k ns Γ i j))
 | .augL i m,st=>F5 st fun t op e J=>op== .Add&&Dp t fun nm J=>Γ[i]? ==some nm&&(ns.lookup nm==some .local&&B2 false k ns Γ m e)
 | .ex m,st=>Ru st fun e J=>DO e&&B2 false k ns Γ m e
 | .ret m,st=>Gu st fun o J=>xo o fun e=>B2 false k ns Γ m e
 | .ret0,st=>Gu st fun o J=>o.isNone
 | .ifs c t e,st=>dM st fun ec bt be J=>B2 true k ns Γ c ec&&(Gr k ns Γ t bt&&Gr k ns Γ e be)
 | .forN i m b,st=>Qb st fun t it body el J=>el.isEmpty&&Dp t fun nm J=>Γ[i]? ==some nm&&A1 ns nm&&WG ns it "range" fun e=>B2 false k ns Γ m e&&Gr k ns Γ b body
 | .forR i m m2 b,st=>Qb st fun t it body el J=>el.isEmpty&&Dp t fun nm J=>Γ[i]? ==some nm&&A1 ns nm&&ZC ns it "range" fun e e2=>Ar e2&&(B2 false k ns Γ m e&&(B2 false k ns Γ m2 e2&&Gr k ns Γ b body))
 | .forE i m b,st=>Qb st fun t e body el J=>el.isEmpty&&Dp t fun nm J=>Γ[i]? ==some nm&&A1 ns nm&&(E0 e&&(B2 false k ns Γ m e&&Gr k ns Γ b body))
 | .forD i m b,st=>Qb st fun t e body el J=>el.isEmpty&&Dp t fun nm J=>Γ[i]? ==some nm&&A1 ns nm&&(E0 e&&(B2 false k ns Γ m e&&Gr false ns Γ b body))
 | .raise m,st=>NZ st fun x c J=>c.isNone&&xo x fun e=>xC ns e "Refusal" fun es=>x1 es fun a=>xK a (.str (wd m))
 | .bad,_=>true
noncomputable def Gr(k:Bool)(ns:Dm)(Γ:List Str):List (MS Fn)->List Stmt->Bool
 | [],st=>st.isEmpty
 | m::ms,st=> @List.casesOn _ (fun J=>Bool) st false fun x r=>fJ k ns Γ m x&&(Q5 m||Gr k ns Γ ms r)
end
theorem MA{nm:Str}{px p:Pos}{sc:Scope}(h:Nj ns nm px p sc=true)(ek:AJ X Ad env ns):(env.blockKind== .function&&env.kindOf nm==some .local&&px.line==p.line&& !(sc.names.any fun(n,k)=>n==nm&&(k== .local||k== .cell)))=true:=by
 have bk:(env.blockKind== .function)=true:=by unfold PySem.Env.blockKind;rw[ek.kind];rfl
 have kk:(env.kindOf nm==some .local)=true:=by unfold PySem.Env.kindOf;rw[ek.names];exact Ag (Ag h)
 have h1:=Am (Ag h)
 have h2:=Am h
 rw[bk,kk,h1,h2];rfl
theorem Sq{nm:Str}{px pos:Pos}{e:Expr}(h:eW ns nm px e=true):ns.lookup nm=some .local/\∀(X:Fx) (env:PySem.Env),AJ X Ad env ns->exec (.Assign [.Name nm px] e pos) env=(do standAt pos;(G5 e env (some (assign (.Name nm px) env)) >>= fun J=>pure ());pure .next):=by
 rcases(Bool.or_eq_true _ _).mp h with h | h
 .refine DR (P:=fun e=>ns.lookup nm=some .local/\∀(X:Fx) (env:PySem.Env),AJ X Ad env ns->exec (.Assign [.Name nm px] e pos) env=(do standAt pos;(G5 e env (some (assign (.Name nm px) env)) >>= fun J=>pure ());pure .next)) h fun elt gens sc p h=>⟨beq_iff_eq.mp (Ag (Ag h)),fun X env ek=> ?_⟩
  rw[exec_Assign_Name_used _ _ _ _ (show swapsWith (.ListComp elt gens sc p) (some (.Name nm px)) pos.line env=pure true from congrArg pure (MA h ek))]
  rfl
 .refine GO (P:=fun e=>ns.lookup nm=some .local/\∀(X:Fx) (env:PySem.Env),AJ X Ad env ns->exec (.Assign [.Name nm px] e pos) env=(do standAt pos;(G5 e env (some (assign (.Name nm px) env)) >>= fun J=>pure ());pure .next)) h fun kx vx gens sc p h=>⟨beq_iff_eq.mp (Ag (Ag h)),fun X env ek=> ?_⟩
  rw[exec_Assign_Name_used _ _ _ _ (show swapsWith (.DictComp kx vx gens sc p) (some (.Name nm px)) pos.line env=pure true from congrArg pure (MA h ek))]
  rfl
inductive Yc(ns:Dm)(Γ:List Str)(is:List Nat):List Expr->Prop
 | mk (tg:List (Str×Pos)) (hl:tg.length=is.length) (hi:∀(j i:Nat) (p:Str×Pos),is[j]? =some i->tg[j]? =some p->Γ[i]? =some p.1/\A1 ns p.1=true):Yc ns Γ is (tg.map fun p=> .Name p.1 p.2)
theorem Yc.cons{i:Nat}{is:List Nat}{nm:Str}{px:Pos}{es:List Expr}(t:Yc ns Γ is es)(h:(Γ[i]? ==some nm&&A1 ns nm)=true):Yc ns Γ (i::is) (.Name nm px::es):=by
 obtain⟨tg,hl,hi⟩:=t
 refine .mk ((nm,px)::tg) (congrArg (·+1) hl) fun j i' p e1 e2=> ?_
 cases j with
 | zero=>cases e1;cases e2;exact⟨eq_of_beq (Ag h),Am h⟩
 | succ j=>exact hi j i' p e1 e2
theorem RM:∀{is:List Nat} {es:List Expr},Oo ns Γ is es=true->Yc ns Γ is es
 | [],_,h=>e0 (P:=Yc ns Γ []) h (.mk [] rfl fun j i p e=>nomatch e)
 | _::_,[],h=>nf h
 | _::_,_::es,h=>BF (P:=fun e=>Yc ns Γ _ (e::es)) (Ag h) fun J J q=>(RM (Am h)).cons q
structure Gs where
 U:Un
 xc:Value
 fa:Fn->Addr
 n:Nat
 C:Iv Fn
 A:Around
 Ad:PySem.Env
structure Ps(k:Bool)(ns:Dm)(Γ:List Str)(G:Gs):Prop where
 nd:Γ.Nodup
 al:Al G.U G.xc G.fa G.n G.C
 rm:DI G.A G.n 3
 kr:k=true->∀X,SX G.U G.A X G.Ad G.Ad G.n ns->Jn G.U G.xc G.C G.A X G.Ad Γ ns G.n
noncomputable def B7(k:Bool)(ns:Dm)(Γ:List Str)(m:MS Fn)(st:Stmt):Prop:=∀G:Gs,Ps k ns Γ G->SS G.U G.xc G.C G.A G.Ad G.Ad G.n ns Γ m st
noncomputable abbrev eO(m:MS Fn):Prop:=∀(k:Bool) (ns:Dm) (Γ:List Str) (st:Stmt),fJ k ns Γ m st=true->B7 k ns Γ m st
noncomputable def ZN(ms:List (MS Fn)):Prop:=∀(k:Bool) (ns:Dm) (Γ:List Str) (st:List Stmt),Gr k ns Γ ms st=true->∀G:Gs,Ps k ns Γ G->NS G.U G.xc G.C G.A G.Ad G.Ad G.n ns Γ ms st
theorem aH(rm:DI A n 3):DI A n 1:=⟨by have:=rm.1;exact dA ‹_› (by rfl),by have:=rm.2;exact dA ‹_› (by rfl)⟩
noncomputable abbrev Gs.at(G:Gs)(X:Fx):Ge:=⟨G.U,G.xc,G.fa,G.n,G.C,G.A,X,G.Ad,G.Ad⟩
theorem Ps.at{k:Bool}{G:Gs}(g:Ps k ns Γ G){X:Fx}(sx:SX G.U G.A X G.Ad G.Ad G.n ns):Pk k ns Γ (G.at X):=⟨g.al,sx.cx,aH g.rm,sx.ek,fun hk=>g.kr hk X sx⟩
theorem M2{k:Bool}{m:ME Fn}{e:Expr}{G:Gs}(h:B2 false k ns Γ m e=true)(g:Ps k ns Γ G):MR G.U G.xc G.C G.A G.Ad G.Ad G.n ns Γ m e:=fun X sx=>BI (Ab m) h (g.at sx)
theorem gY{k:Bool}{m:ME Fn}{e:Expr}{G:Gs}(h:B2 true k ns Γ m e=true)(g:Ps k ns Γ G):fA G.U G.xc G.C G.A G.Ad G.Ad G.n ns Γ m e:=fun X sx=>(Ab m _ _ _ _ _ h (G.at X) (g.at sx)).2 rfl
theorem YJ{st:Stmt}:SS U xc C A Ad env n ns Γ (.bad:MS Fn) st:=fun X ρ H s vs Q E sx x eo hp=>hp.elim
theorem VH{ms:List (MS Fn)}{st:List Stmt}:NS U xc C A Ad env n ns Γ (.bad::ms:List (MS Fn)) st:=fun X ρ H s vs Q E sx x eo hp=>hp.elim
theorem PB{k:Bool}{m:ME Fn}{e:Expr}(hc:Ze m=true):B2 false k ns Γ m e=true->Fb k ns Γ m e:=
 WL (P:=fun m=>B2 false k ns Γ m e=true->Fb k ns Γ m e) hc (fun a b=>OQ (Ab a) (Ab b)) (fun a b=>LF (Ab a) (Ab b)) (fun a b c=>VU (Ab a) (Ab b) (Ab c)) fun a b=>OA (Ab a) (Ab b)
theorem Vs{k:Bool}{m:ME Fn}{e:Expr}{i:Nat}{nm:Str}{px p:Pos}{G:Gs}(g:Ps k ns Γ G)(h1:(Γ[i]? ==some nm)=true)(ho:B2 false k ns Γ m e=true)(h:(eW ns nm px e&&Ze m)=true):SS G.U G.xc G.C G.A G.Ad G.Ad G.n ns Γ (.asg i m) (.Assign [.Name nm px] e p):=
 U3 (eq_of_beq h1) g.nd (Sq (Ad:=G.Ad) (pos:=p) (Ag h)).1 (Sq (Ag h)).2 fun X sx=>(PB (Am h) ho _ (g.at sx)).1
theorem fN{α:Type}[BEq α][LawfulBEq α]{a b:α}(h:(a != b)=true):a≠b:=bne_iff_ne.mp h
theorem Xh{k:Bool}{m:ME Fn}{e:Expr}{is:List Nat}{es:List Expr}{j:Nat}{p q:Pos}{G:Gs}(g:Ps k ns Γ G)(ho:B2 false k ns Γ m e=true)(h:Zl ns Γ is es e=true):SS G.U G.xc G.C G.A G.Ad G.Ad G.n ns Γ (.asgT is m) (.Assign [.Tuple es j p] e q):=
 J1 (P:=fun is=>SS G.U G.xc G.C G.A G.Ad G.Ad G.n ns Γ (.asgT is m) (.Assign [.Tuple es j p] e q)) h fun i1 i2 h=>J1 (P:=fun es=>SS G.U G.xc G.C G.A G.Ad G.Ad G.n ns Γ (.asgT [i1,i2] m) (.Assign [.Tuple es j p] e q)) h fun ta tb h=>
 BF (P:=fun ta=>SS G.U G.xc G.C G.A G.Ad G.Ad G.n ns Γ (.asgT [i1,i2] m) (.Assign [.Tuple [ta,tb] j p] e q)) h fun a pa h=>BF (P:=fun tb=>SS G.U G.xc G.C G.A G.Ad G.Ad G.n ns Γ (.asgT [i1,i2] m) (.Assign [.Tuple [.Name a pa,tb] j p] e q)) h fun b pb h=>
 Fz (P:=fun e=>B2 false k ns Γ m e=true->SS G.U G.xc G.C G.A G.Ad G.Ad G.n ns Γ (.asgT [i1,i2] m) (.Assign [.Tuple [.Name a pa,.Name b pb] j p] e q)) h (fun vs k2 p2 h=>J1 (P:=fun vs=>B2 false k ns Γ m (.Tuple vs k2 p2)=true->SS G.U G.xc G.C G.A G.Ad G.Ad G.n ns Γ (.asgT [i1,i2] m) (.Assign [.Tuple [.Name a pa,.Name b pb] j p] (.Tuple vs k2 p2) q)) h fun v1 v2 h ho=>
  Sw (Ag (Ag (Ag (Ag (Ag h))))) (Am (Ag (Ag (Ag (Ag h))))) (eq_of_beq (Ag (Am (Ag (Ag (Ag h)))))) (eq_of_beq (Am (Am (Ag (Ag (Ag h)))))) (Ag (Am (Ag (Ag h)))) (fN (Am (Am (Ag (Ag h))))) (nt (Ag (Am (Ag h)))) (nt (Am (Am (Ag h)))) (fN (Ag (Am h))) (eq_of_beq (Ag (Am (Am h)))) (eq_of_beq (Am (Am (Am h)))) g.nd (M2 ho g)) ho
theorem Xv{k:Bool}{m:ME Fn}{e:Expr}{is:List Nat}{es:List Expr}{j:Nat}{p q:Pos}{G:Gs}(g:Ps k ns Γ G)(ho:B2 false k ns Γ m e=true)(hc:N6 e=true)(h:Oo ns Γ is es=true):SS G.U G.xc G.C G.A G.Ad G.Ad G.n ns Γ (.asgT is m) (.Assign [.Tuple es j p] e q):=by
 obtain⟨tg,hl,hi⟩:=RM h
 exact TX hc hl hi g.nd (M2 ho g)
mutual
theorem PU:∀m:MS Fn,eO m
 | .asg i m=>fun k ns Γ st h=>D9 (P:=B7 k ns Γ (.asg i m)) h fun ts e p h=>Db (P:=fun ts=>B7 k ns Γ (.asg i m) (.Assign ts e p)) h fun t h=>BF (P:=fun t=>B7 k ns Γ (.asg i m) (.Assign [t] e p)) h fun nm px h G g=>
  ((Bool.or_eq_true _ _).mp (Am h)).elim (Vs g (Ag (Ag h)) (Am (Ag h))) fun h2=>YI (Ag h2) (eq_of_beq (Ag (Ag h))) g.nd (Am h2) (M2 (Am (Ag h)) g)
 | .asgT is m=>fun k ns Γ st h=>D9 (P:=B7 k ns Γ (.asgT is m)) h fun ts e p h=>Db (P:=fun ts=>B7 k ns Γ (.asgT is m) (.Assign ts e p)) h fun t h=>Fz (P:=fun t=>B7 k ns Γ (.asgT is m) (.Assign [t] e p)) h fun es j q h G g=>
  ((Bool.or_eq_true _ _).mp (Am h)).elim (Xh g (Ag h)) fun h2=>Xv g (Ag h) (Ag h2) (Am h2)
 | .setA o a m=>fun k ns Γ st h=>D9 (P:=B7 k ns Γ (.setA o a m)) h fun ts e p h=>Db (P:=fun ts=>B7 k ns Γ (.setA o a m) (.Assign ts e p)) h fun t h=>DC (P:=fun t=>B7 k ns Γ (.setA o a m) (.Assign [t] e p)) h fun x nm q h=>bq (P:=fun nm=>B7 k ns Γ (.setA o a m) (.Assign [.Attribute x nm q] e p)) (Ag h) fun G g=>
  T3 g.al.uf (Am (Ag (Am h))) (NT (Ag (Ag (Am h)))) (M2 (Ag (Am (Am h))) g) (M2 (Am (Am (Am h))) g)
 | .setI o i m=>fun k ns Γ st h=>D9 (P:=B7 k ns Γ (.setI o i m)) h fun ts e p h=>Db (P:=fun ts=>B7 k ns Γ (.setI o i m) (.Assign ts e p)) h fun t h=>DB (P:=fun t=>B7 k ns Γ (.setI o i m) (.Assign [t] e p)) h fun x j q h G g=>
  T1 (Ag h) (M2 (Ag (Am h)) g) (M2 (Ag (Am (Am h))) g) (M2 (Am (Am (Am h))) g)
 | .augL i m=>fun k ns Γ st h=>JJ (P:=B7 k ns Γ (.augL i m)) h fun t op e p h=>bq (P:=fun op=>B7 k ns Γ (.augL i m) (.AugAssign t op e p)) (Ag h) (BF (P:=fun t=>B7 k ns Γ (.augL i m) (.AugAssign t .Add e p)) (Am h) fun nm px h G g=>Ub (eq_of_beq (Ag h)) g.nd (eq_of_beq (Ag (Am h))) (M2 (Am (Am h)) g))
 | .ex m=>fun k ns Γ st h=>Sh (P:=B7 k ns Γ (.ex m)) h fun e p h G g=>ZR (Ag h) (M2 (Am h) g)
 | .ret m=>fun k ns Γ st h=>Gi (P:=B7 k ns Γ (.ret m)) h fun o p h=>FT (P:=fun o=>B7 k ns Γ (.ret m) (.Return o p)) h fun e h G g=>W9 (M2 h g)
 | .ret0=>fun k ns Γ st h=>Gi (P:=B7 k ns Γ .ret0) h fun o p h=>HA (P:=fun o=>B7 k ns Γ .ret0 (.Return o p)) h fun G g=>Vj
 | .ifs c t e=>fun k ns Γ st h=>WQ (P:=B7 k ns Γ (.ifs c t e)) h fun ec bt be p h G g=>X4 (gY (Ag h) g) (Cw t _ _ _ _ (Ag (Am h)) G g) (Cw e _ _ _ _ (Am (Am h)) G g)
 | .forN i m b=>fun k ns Γ st h=>HU (P:=B7 k ns Γ (.forN i m b)) h fun t it body el p h=>e0 (P:=fun el=>B7 k ns Γ (.forN i m b) (.For t it body el p)) (Ag h) (BF (P:=fun t=>B7 k ns Γ (.forN i m b) (.For t it body [] p)) (Am h) fun nm px h=>FZ (P:=fun it=>B7 k ns Γ (.forN i m b) (.For (.Name nm px) it body [] p)) (Am h) fun p2 e p3 hg hs h2 G g=>
  Uk g.al.ub rfl hg hs (eq_of_beq (Ag (Ag h))) g.nd (Am (Ag h)) (M2 (Ag h2) g) (Cw b _ _ _ _ (Am h2) G g))
 | .forR i m m2 b=>fun k ns Γ st h=>HU (P:=B7 k ns Γ (.forR i m m2 b)) h fun t it body el p h=>e0 (P:=fun el=>B7 k ns Γ (.forR i m m2 b) (.For t it body el p)) (Ag h) (BF (P:=fun t=>B7 k ns Γ (.forR i m m2 b) (.For t it body [] p)) (Am h) fun nm px h=>KO (P:=fun it=>B7 k ns Γ (.forR i m m2 b) (.For (.Name nm px) it body [] p)) (Am h) fun p2 e e2 p3 hg hs h2 G g=>
  Uu g.al.ub rfl hg hs (Ag h2) (eq_of_beq (Ag (Ag h))) g.nd (Am (Ag h)) (M2 (Ag (Am h2)) g) (M2 (Ag (Am (Am h2))) g) (Cw b _ _ _ _ (Am (Am (Am h2))) G g))
 | .forE i m b=>fun k ns Γ st h=>HU (P:=B7 k ns Γ (.forE i m b)) h fun t e body el p h=>e0 (P:=fun el=>B7 k ns Γ (.forE i m b) (.For t e body el p)) (Ag h) (BF (P:=fun t=>B7 k ns Γ (.forE i m b) (.For t e body [] p)) (Am h) fun nm px h G g=>
  TP rfl (Ag (Am h)) (eq_of_beq (Ag (Ag h))) g.nd (Am (Ag h)) (M2 (Ag (Am (Am h))) g) (Cw b _ _ _ _ (Am (Am (Am h))) G g))
 | .forD i m b=>fun k ns Γ st h=>HU (P:=B7 k ns Γ (.forD i m b)) h fun t e body el p h=>e0 (P:=fun el=>B7 k ns Γ (.forD i m b) (.For t e body el p)) (Ag h) (BF (P:=fun t=>B7 k ns Γ (.forD i m b) (.For t e body [] p)) (Am h) fun nm px h G g=>
  Uh rfl (Ag (Am h)) (eq_of_beq (Ag (Ag h))) g.nd (Am (Ag h)) (M2 (Ag (Am (Am h))) g) fun a o=>Cw b _ _ _ _ (Am (Am (Am h))) { G with U:=G.U.pinAt a o} ⟨g.nd,g.al.pin,g.rm,fun q=>nf q⟩)
 | .raise m=>fun k ns Γ st h=>Px (P:=B7 k ns Γ (.raise m)) h fun x c p h=>HA (P:=fun c=>B7 k ns Γ (.raise m) (.Raise x c p)) (Ag h) (FT (P:=fun x=>B7 k ns Γ (.raise m) (.Raise x none p)) (Am h) fun e h=>Kf (P:=fun e=>B7 k ns Γ (.raise m) (.Raise (some e) none p)) h fun p1 es q hg h=>Db (P:=fun es=>B7 k ns Γ (.raise m) (.Raise (some (.Call (.Name "Refusal" p1) es [] q)) none p)) h fun a h=>
  LB (P:=fun a=>B7 k ns Γ (.raise m) (.Raise (some (.Call (.Name "Refusal" p1) [a] [] q)) none p)) h fun j pj G g=>by
   obtain⟨Ce,D,fI,cd,e,ue⟩:=g.al.ue
   rw[e]
   exact Qx ue g.rm hg)
 | .bad=>fun k ns Γ st h G g=>YJ
theorem Cw:∀ms:List (MS Fn),ZN ms
 | []=>fun k ns Γ st h G g=>e0 (P:=NS G.U G.xc G.C G.A G.Ad G.Ad G.n ns Γ []) h VD
 | m::ms=>fun k ns Γ st=> @List.casesOn _ (fun st=>Gr k ns Γ (m::ms) st=true->∀G:Gs,Ps k ns Γ G->NS G.U G.xc G.C G.A G.Ad G.Ad G.n ns Γ (m::ms) st) st (fun h=>nf h) fun x r h G g=>
  ((Bool.or_eq_true _ _).mp (Am h)).elim (fun h2=>QN (P:=fun m=>NS G.U G.xc G.C G.A G.Ad G.Ad G.n ns Γ (m::ms) (x::r)) h2 VH) fun h2=>Rd (PU m _ _ _ _ (Ag h) G g) (Cw ms _ _ _ _ h2 G g)
end
noncomputable def Γf(f:Fn):List Str:=(Qt f).map Str.ofString
noncomputable def K4(f:Fn):Bool:=decide ((Γf f).Nodup)&&(Γf f).length==(prog f).vars&&decide ((prog f).params<=(prog f).vars)&&(prog f).dflt.all (fun v=>decide (v=.none))&&decide ((prog f).dflt.length<=(prog f).params)
theorem NE(f:Fn):K4 f=true:=by cases f<;>rfl
inductive Li(K:Frag)(fa:Fn->Addr)(f:Fn):Prop
 | mk (oc od osl name qual params body scope dV kV doc pm an cdv ct:_) (h0:K.lookup (fa f)=some ⟨oc,od,.func (fnX name qual params body scope [] dV kV doc pm an cdv ct),osl⟩) (h1:codeIn K cdv qual=true) (h2:Q9 scope ((Γf f).take (prog f).params)) (h3:Gr false scope.names (Γf f) (prog f).body body=true) (h4:∀s args,K.In s.heap->args.length<=(prog f).params->(prog f).params<=args.length+(prog f).dflt.length->BindsTo s (fnX name qual params body scope [] dV kV doc pm an cdv ct) ⟨args,[]⟩ (((Γf f).take (prog f).params).zip (args++List.replicate ((prog f).params - args.length) .none))):Li K fa f
structure Txt(U:Un)(xc:Value)(fa:Fn->Addr)(Aa:List Int)(bg:Fi):Prop where
 uf:UF U
 ug:UG U
 ub:UB U
 uc:UC U fa
 um:UM U fa
 bg:Rk bg
 Aa:Aa=U.Aa
 gmx:∃t,nsIn U.K mainGlobals "MOST_LENGTH"=some (some (.int 1000000 t))
 ue:∃Ce D fI cd,xc=.ref Ce/\UE U Ce D fI cd
 fns:∀f,OZ f=false->Li U.K fa f
section
variable{Aa:List Int}{bg:Fi}
theorem Txt.pinned(h:Txt U xc fa Aa bg)(pin:Addr->Option Obj):Txt { U with pin:=pin} xc fa Aa bg:=by
 refine⟨⟨fun c x hx=>let⟨p,q,r⟩:=h.uf.attr c x hx;⟨p,q,r⟩,h.uf.dict,h.uf.seta,h.uf.over⟩,?_,⟨h.ub.blt,h.ub.cls⟩,⟨h.uc.glo,h.uc.keep⟩,⟨h.um.copyG,h.um.copyF,h.um.isFn,h.um.makes,h.um.init,h.um.high,h.um.keepC⟩,h.bg,h.Aa,h.gmx,?_,fun f hf=>h.fns f hf⟩
 .have:=h.ug;cases this;constructor<;>assumption
 .obtain ⟨a,b,c,d,e,f⟩:=h.ue
  refine⟨a,b,c,d,e,?_⟩
  cases f;constructor<;>assumption
theorem IP:∀{Γ:List Str} {xs:List Value} {i:Nat} {x:Str} {v:Value},Γ.Nodup->Γ[i]? =some x->xs[i]? =some v->(Γ.zip xs).lookup x=some v
 | [],_,_,_,_,_,e,_=>by simp at e
 | _::_,[],_,_,_,_,_,e=>by simp at e
 | y::Γ,w::xs,0,x,v,_,e1,e2=>by
  simp only [List.getElem?_cons_zero,Option.some.injEq]at e1 e2
  subst e1 e2
  rw[List.zip_cons_cons,List.lookup_cons,beq_self_eq_true]
 | y::Γ,w::xs,i+1,x,v,nd,e1,e2=>by
  rw[List.nodup_cons]at nd
  simp only [List.getElem?_cons_succ]at e1 e2
  have JK:(x==y)=false:=by
   refine beq_eq_false_iff_ne.mpr fun q=>nd.1 ?_
   rw[<-q];exact List.mem_of_getElem? e1
  rw[List.zip_cons_cons,List.lookup_cons,JK]
  exact IP nd.2 e1 e2
theorem C1.nones{sa:Addr}:∀{vs:List V},(∀v ∈ vs,v=.none)->C1 sa ρ vs (List.replicate vs.length .none)
 | [],_=>trivial
 | v::vs,h=>⟨by rw[h v (.head _)];rfl,C1.nones fun w hw=>h w (.tail _ hw)⟩
theorem GC{Γ:List Str}{xs:List Value}(h:xs.length=Γ.length):(Γ.zip xs).map (·.1)=Γ:=by
 induction Γ generalizing xs with
 | nil=>rfl
 | cons y Γ ih=>cases xs with
  | nil=>cases h
  | cons w xs=>rw[List.zip_cons_cons,List.map_cons,ih (by simpa using h)]
theorem Po{X':Fx}{Ai:PySem.Env}{vs:List V}{xs:List Value}{p q:Nat}(nd:Γ.Nodup)(hp:p<=Γ.length)(hv:C1 U.sa ρ vs xs)(hl:vs.length=p)(hq:q=Γ.length)
  (ld:∀x v,((Γ.take p).zip xs).lookup x=some v->GB X' Ai x v):EO U X' ρ Ai Γ (vs.map some++List.replicate (q - p) Option.none):=by
 refine⟨by simp[hl,hq];exact Nat.add_sub_cancel' ‹_›,fun i v x h1 h2 h3=> ?_⟩
 have hi:i < vs.length:=by
  by_cases hi:i < vs.length
  .exact hi
  .rw [List.getElem?_append_right (by simpa using hi),List.getElem?_replicate]at h1
   split at h1<;>cases h1
 rw[List.getElem?_append_left (by simpa using hi),List.getElem?_map]at h1
 cases hvi:vs[i]? with
 | none=>rw[hvi]at h1;cases h1
 | some w=>
  rw[hvi]at h1
  cases h1
  obtain⟨y,hy,ry⟩:=hv.get hvi
  refine⟨y,ry,ld x y (IP (nd.sublist (List.take_sublist _ _)) (i:=i) ?_ hy)⟩
  rw[List.getElem?_take,if_pos (by exact g3 ‹_› ‹_›)]
  exact h2
theorem T2(d:Nat):∀U:Un,Txt U xc fa Aa bg->Ht U xc fa d (D8 prog Aa bg initOf d):=by
 induction d with
 | zero=>
  intro U tx f A X Ad ρ H s vs vs' R hf cx x hv hp
  exact hp.elim
 | succ d ih=>
  intro U tx f A X Ad ρ H s vs vs' R hf cx x hv hp
  have sh:=NE f
  unfold K4 at sh
  simp only [DK,decide_eq_true_eq,List.all_eq_true]at sh
  obtain⟨⟨⟨⟨nd,Ba⟩,hpv⟩,hdf⟩,hdl⟩:=sh
  have Ba:=eq_of_beq Ba
  rw[D8]at hp
  by_cases hc:(vs++List.drop (vs.length+(prog f).dflt.length - (prog f).params) (prog f).dflt).length=(prog f).params/\vs.length+(prog f).dflt.length ≥ (prog f).params
  .rw [if_pos hc]at hp
   obtain⟨oc,od,osl,name,qual,params,body,scope,dV,kV,doc,pm,an,cdv,ct,hl,hcd,sc,Ls,hb⟩:=tx.fns f hf
   have KI:=cx.gf.K.keeps x.fr.keep
   have hvl:=hv.length
   have hp':vs.length<=(prog f).params:=by have:=hc.1;rw[S2]at this;exact Nat.le.intro this
   have hb':=hb s vs' KI (by rw[hvl];exact hp') (by rw[hvl];exact hc.2)
   have rm:DI A d (7+1):=⟨by have:=cx.hd;exact dA ‹_› (by rfl),by have:=cx.hu;exact dH ‹_› (by rfl)⟩
   have cxd:Cx U A X Ad d:=⟨cx.B,cx.hA,cx.hf,cx.hk,cx.hh,by have:=cx.hd;exact qR ‹_›,by have:=cx.hu;exact gH ‹_›,cx.gf⟩
   have dl:(List.drop (vs.length+(prog f).dflt.length - (prog f).params) (prog f).dflt).length=(prog f).params - vs'.length:=by rw[hvl];have:=hc.1;rw[S2]at this;exact Nat.eq_sub_of_add_eq' this
   have Ec:C1 U.sa ρ (vs++List.drop (vs.length+(prog f).dflt.length - (prog f).params) (prog f).dflt) (vs'++List.replicate ((prog f).params - vs'.length) .none):=by
    refine hv.append ?_
    rw[<-dl]
    exact C1.nones fun v hm=>hdf v (List.mem_of_mem_drop hm)
   have bn:(((Γf f).take (prog f).params).zip (vs'++List.replicate ((prog f).params - vs'.length) .none)).map (·.1)=(Γf f).take (prog f).params:=by
    refine GC ?_
    rw[S2,List.length_replicate,List.length_take,Ba];exact i3 (hvl▸hp') ‹_›
   refine V1 (k:=7) (xc:=xc) cxd rm x (by rw[bn];exact sc) (KI _ _ hl) rfl (codeRec_of KI hcd) hb' fun X' h₁ tk Ai B8 hex hbase bS rm' sx' x' ld=> ?_
   have al:Al U xc fa d { Aa:=Aa,bg:=bg,initOf:=initOf,call:=D8 prog Aa bg initOf d}:=
    ⟨tx.uf,tx.ug,tx.ub,tx.uc,tx.um,tx.bg,tx.Aa,rfl,tx.gmx,fun pin=>ih _ (tx.pinned pin),tx.ue⟩
   have rm3:DI (A.deeper Ai) d 3:=⟨by have:=rm'.1;exact dA ‹_› (by rfl),by have:=rm'.2;exact dA ‹_› (by rfl)⟩
   refine Cw (prog f).body false scope.names (Γf f) body Ls ⟨U,xc,fa,d,_,A.deeper Ai,Ai⟩ ⟨nd,al,rm3,fun q=>nf q⟩ X' ρ H _ _ _ _ sx' x' (Po nd (by rw[Ba];exact hpv) Ec hc.1 Ba.symm ld) ?_
   unfold bnd at hp
   cases e:Ak { Aa:=Aa,bg:=bg,initOf:=initOf,call:=D8 prog Aa bg initOf d} (prog f).body ((vs++List.drop (vs.length+(prog f).dflt.length - (prog f).params) (prog f).dflt).map some++List.replicate ((prog f).vars - (prog f).params) Option.none) H with
   | bad=>rw[e]at hp;exact hp
   | exc m H1=>
    rw[e]at hp
    exact fun X'' ρ' e' h' CG sm l x2=>⟨X'',ρ',H1,m,e',rfl,sm,x2,fun h'' x3=>hp ρ' e' h'' CG l x3⟩
   | ok r H1=>
    rw[e]at hp
    obtain⟨vs2,fl⟩:=r
    intro X'' ρ' h' CG sm sxx l F eo2
    have sub:(X.withEx X.ex).px.Sublist X''.ex:=by rw[sm.ex,hex];exact List.Sublist.refl _
    cases fl with
    | none=>exact⟨X'',X.ex,ρ',H1,.none,sm.G,sub,F,rfl,fun FX=>hp ρ' .none h' CG l FX rfl⟩
    | some v=>exact fun v' r=>⟨X'',X.ex,ρ',H1,v',sm.G,sub,F,rfl,fun FX=>hp ρ' v' h' CG l FX r⟩
  .rw [if_neg hc]at hp;exact hp.elim
end
set_option tactic.hygienic true in
theorem Jy{q:Pos}{a b:Int}{c cv:Value}:∀{l:List Value},TriplesOk l->codeAmong q (l++[rawInt a,rawInt b,c])=some cv->codeAmong q l=some cv\/cv=c:=by
 intro l h
 fun_induction TriplesOk l with
 | case1=>
  intro e
  simp only [List.nil_append,codeAmong,rawInt]at e
  split at e
  .exact .inr (Option.some.inj e).symm
  .cases e
 | case2 x t y u z rest ih=>
  intro e
  simp only [List.cons_append,codeAmong]at e ⊢
  split at e
  .rename_i q;rw[if_pos q];exact .inl e
  .rename_i q;rw[if_neg q];exact ih h e
 | case3=>exact h.elim
section
variable{lp:Pos}{c:Addr}{params:Arguments}{body:Expr}{sc:Scope}
structure IL(ns:Dm)(Γ:List Str)(params:Arguments)(sc:Scope):Prop where
 ps:params=⟨[],[],none,[],[],none,[]⟩
 kind:sc.kind=.function
 co:sc.isCoroutine=false
 gen:sc.isGenerator=false
 all:∀p ∈ sc.names,(p.2=.free/\ns.lookup p.1=some .cell/\p.1 ∈ Γ)\/p.2=.globalImplicit
theorem RR(h:Ri ns Γ params sc=true):IL ns Γ params sc:=by
 obtain⟨a1,a2,a3,a4,a5,a6,a7⟩:=params
 have h1:=Ag (Ag (Ag h))
 refine⟨?_,eq_of_beq (Am h1),nt (Am (Ag (Ag h))),nt (Am (Ag h)),fun p hp=> ?_⟩
 .have h1:=Ag h1
  exact e0 (P:=fun a=>Arguments.mk a a2 a3 a4 a5 a6 a7=_) (Ag (Ag (Ag (Ag (Ag (Ag h1))))))<|e0 (P:=fun a=>Arguments.mk [] a a3 a4 a5 a6 a7=_) (Am (Ag (Ag (Ag (Ag (Ag h1))))))<|HA (P:=fun a=>Arguments.mk [] [] a a4 a5 a6 a7=_) (Am (Ag (Ag (Ag (Ag h1)))))<|
   e0 (P:=fun a=>Arguments.mk [] [] none a a5 a6 a7=_) (Am (Ag (Ag (Ag h1))))<|e0 (P:=fun a=>Arguments.mk [] [] none [] a a6 a7=_) (Am (Ag (Ag h1)))<|HA (P:=fun a=>Arguments.mk [] [] none [] [] a a7=_) (Am (Ag h1))<|e0 (P:=fun a=>Arguments.mk [] [] none [] [] none a=_) (Am h1) rfl
 .exact ((Bool.or_eq_true _ _).mp (List.all_eq_true.mp (Am h) p hp)).elim (fun q=> .inr (eq_of_beq q)) fun q=> .inl ⟨eq_of_beq (Ag (Ag q)),eq_of_beq (Am (Ag q)),NT (Am q)⟩
theorem IL.cells(k:IL ns Γ params sc)(ek:AJ X Ad env ns):∀p ∈ sc.names,p.2=.free->(env.cells.lookup p.1).isSome=true:=fun p hp e=>by
 rcases k.all p hp with⟨_,h,_⟩ | h
 .refine ek.hc p.1 (.inl ?_)
  unfold PySem.Env.kindOf
  rw[ek.names];exact h
 .rw [h]at e;cases e
inductive FS.tabI(U:Un)(X:Fx)(ρ:A8)(H:MH)(h:Heap)(Pn:Addr):Prop
 | mk (ps:_) (codes:_) (q0:h.get? Pn=some (tabObj ps)) (q1:X.G.get? Pn=none) (q2:Pn≠X.L) (q3:TriplesOk ps.toList) (q4:Ld ps.toList codes) (q5:(∀q ∈ codes,h.get? q.1=some q.2)) (q6:∀f o ps' new h',(∀b o,b≠Pn->h.get? b=some o->h'.get? b=some o)->h'.get? Pn=some (tabObj ps')->TriplesOk ps'.toList->Ld ps'.toList (new++codes)->(∀q ∈ new,h.objs.size<=q.1/\q.1 < f/\h'.get? q.1=some q.2)->BC new->h.objs.size<=f->h'.get? f=some o->AL U (X.withEx ((f,o)::X.ex)) ρ H h'):FS.tabI U X ρ H h Pn
theorem FS.tab{Pn:Addr}(x:AL U X ρ H h)(h0:H[0]? =some .tab)(hPn:U.tabA=Pn):FS.tabI U X ρ H h Pn:=by
 obtain⟨F,ps,p,N,D,lo⟩:=x
 obtain⟨a,l,pre,post,e1,e2,⟨pt,codes,rfl,ea,tok,cin⟩,back⟩:=p.at h0
 subst e2
 obtain rfl:Pn=a.1:=hPn.symm.trans ea.symm
 have hH:H.set 0 .tab=H:=by
  cases H with
  | nil=>rfl
  | cons c r=>simp only [List.getElem?_cons_zero,Option.some.injEq]at h0;rw[h0];rfl
 have back:=fun l' z=>hH▸back .tab l' z
 have mem:∀q ∈ (a.1,tabObj pt)::codes,q ∈ X.px++(pre++((a.1,tabObj pt)::codes)::post).flatten:=fun q hq=>by
  refine C9 _ ?_
  rw[List.flatten_append,List.flatten_cons]
  exact C9 _ (B1 _ hq)
 have NP:=N _ (mem _ (.head _))
 refine⟨pt,codes,NP.1,NP.2.2,NP.2.1,tok,cin,fun q hq=>(N q (mem q (.tail _ hq))).1,fun f o ps' new h' k1 k2 t' c' hn dn hf ho=> ?_⟩
 have hs:∀q ∈ X.px++(pre++((a.1,tabObj pt)::codes)::post).flatten,q.1 < h.objs.size:=fun q hq=>Heap.lt_size (N q hq).1
 have hLs:X.L < h.objs.size:=F.ns.lt
 have fresh:∀b,h.objs.size<=b->X.G.get? b=none:=fun b hb=>Heap.get?_none_of_le (Nat.le_trans F.above (Nat.le_trans (Nat.le_of_lt hLs) hb))
 refine⟨⟨F.ns.extBut (fun b o hb q=>k1 b o hb q) (Ne.symm NP.2.1),fun b o q=>k1 b o (fun z=> ?_) (F.keep b o q),F.above⟩,pre++((a.1,tabObj ps')::(new++codes))::post,back _ ⟨ps',new++codes,rfl,ea,t',c'⟩,?_,?_,?_⟩
 .rw [z,NP.2.2]at q;cases q
 .have w0:X.px++(pre++((a.1,tabObj pt)::codes)::post).flatten=(X.px++pre.flatten)++(a.1,tabObj pt)::(codes++post.flatten):=by simp
  rw[w0]at N D
  intro q hq
  have hq':q=(f,o)\/q=(a.1,tabObj ps')\/q ∈ new\/(q ∈ X.px++pre.flatten\/q ∈ codes++post.flatten):=by
   simp only [Fx.px,List.flatten_append,List.flatten_cons,List.mem_append,List.mem_cons]at hq ⊢
   rcases hq with(h | h | h) | h | (h | h | h) | h
   .exact .inr (.inr (.inr (.inl (.inl (.inl h)))))
   .exact .inl h
   .exact .inr (.inr (.inr (.inl (.inl (.inr h)))))
   .exact .inr (.inr (.inr (.inl (.inr h))))
   .exact .inr (.inl h)
   .exact .inr (.inr (.inl h))
   .exact .inr (.inr (.inr (.inr (.inl h))))
   .exact .inr (.inr (.inr (.inr (.inr h))))
  have apart:∀q,q ∈ X.px++pre.flatten\/q ∈ codes++post.flatten->q.1≠a.1:=by
   have d:=BP List.perm_middle D
   unfold BC at d
   rw[List.map_cons,List.nodup_cons]at d
   intro q hq z
   refine d.1 (List.mem_map.mpr ⟨q,?_,z⟩)
   exact List.mem_append.mpr hq
  rcases hq' with rfl | rfl | h | h
  .exact ⟨ho,Nat.ne_of_gt (Nat.lt_of_lt_of_le hLs hf),fresh _ hf⟩
  .exact ⟨k2,NP.2⟩
  .have:=hn q h
   exact⟨this.2.2,Nat.ne_of_gt (Nat.lt_of_lt_of_le hLs this.1),fresh _ this.1⟩
  .have y:=N q (by
    rcases h with h | h
    .exact B1 _ h
    .exact C9 _ (.tail _ h))
   exact⟨k1 _ _ (apart q h) y.1,y.2⟩
 .have pm:((X.withEx ((f,o)::X.ex)).px++(pre++((a.1,tabObj ps')::(new++codes))::post).flatten).Perm ((f,o)::new++(X.px++(pre++((a.1,tabObj ps')::codes)::post).flatten)):=by
   have e1:(X.withEx ((f,o)::X.ex)).px++(pre++((a.1,tabObj ps')::(new++codes))::post).flatten=X.own++(f,o)::((X.ex++pre.flatten++[(a.1,tabObj ps')])++new++(codes++post.flatten)):=by simp[Fx.px]
   have e2:(f,o)::new++(X.px++(pre++((a.1,tabObj ps')::codes)::post).flatten)=(f,o)::(new++(X.own++(X.ex++pre.flatten++[(a.1,tabObj ps')]))++(codes++post.flatten)):=by simp[Fx.px]
   rw[e1,e2]
   refine List.perm_middle.trans (List.Perm.cons _ ?_)
   have:=(List.perm_append_comm (l₁:=X.own++(X.ex++pre.flatten++[(a.1,tabObj ps')])) (l₂:=new)).append_right (codes++post.flatten)
   simpa only [List.append_assoc]using this
  refine BP pm.symm ?_
  have D':BC (X.px++(pre++((a.1,tabObj ps')::codes)::post).flatten):=by
   unfold BC at D ⊢
   simpa using D
  have hs':∀q ∈ X.px++(pre++((a.1,tabObj ps')::codes)::post).flatten,q.1 < h.objs.size:=fun q hq=>by
   have:q.1 ∈ (X.px++(pre++((a.1,tabObj pt)::codes)::post).flatten).map (·.1):=by
    have:=List.mem_map_of_mem (f:=(·.1)) hq
    simpa using this
   obtain⟨r,hr,e⟩:=List.mem_map.mp this
   rw[<-e];exact hs r hr
  refine Gy D' ?_ fun p hp q hq=> ?_
  .unfold BC at dn ⊢
   rw[List.map_cons,List.nodup_cons]
   refine⟨fun hm=> ?_,dn⟩
   obtain⟨r,hr,e⟩:=List.mem_map.mp hm
   exact Nat.lt_irrefl _ (Nat.lt_of_lt_of_eq (hn r hr).2.1 e.symm)
  .rcases List.mem_cons.mp hp with rfl | hp
   .exact Nat.lt_of_lt_of_le (hs' q hq) hf
   .exact Nat.lt_of_lt_of_le (hs' q hq) (hn p hp).1
 .intro q hq
  simp only [List.flatten_append,List.flatten_cons,List.mem_append,List.mem_cons]at hq
  have hP3:3 < a.1:=lo (a.1,tabObj pt) (by simp)
  rcases hq with h | (rfl | h | h) | h
  .exact lo q (by simp[h])
  .exact hP3
  .exact Nat.lt_of_lt_of_le hP3 (Nat.le_trans (Nat.le_of_lt (hs _ (mem _ (.head _)))) (hn q h).1)
  .exact lo q (by simp[h])
  .exact lo q (by simp[h])
theorem Ry{Q:Value->Shared->Prop}(cx:Cx U A X Ad n)(ek:AJ X Ad env ns)(hcode:env.code=.ref c)(hCd:CodeHd X.G c U.tabA)(hq:env.qual++"<lambda>"=CW)(x:AL U X ρ H s.heap)(h0:H[0]? =some .tab)(k:IL ns Γ params sc)
  (h:∀f pm c' ctv h' tk,AL U (X.withEx ((f,kla_obj "<lambda>" CW params body sc (Bm env.cells sc.names []) pm c' ctv)::X.ex)) ρ H h'->h'.CodeRec (.ref c') CW->Q (.ref f) { s with heap:=h',toks:=tk}):
  wpAny (model U.prog U.w) A (eval (.Lambda params body sc lp) env) Q E s:=by
 refine kla_eval (by rw[k.ps];rfl) ?_
 rw[hq]
 have T:=cx.gf.T
 have F:=x.fr
 obtain⟨ps,codes,g1,g2,g3,tok,cin,gc,re⟩:=FS.tab x h0 rfl
 have hgs:=T.g.keeps F.keep
 obtain⟨bm,ob,b1,b2,b3,b4,b5,b6⟩:=T.bmain
 have hgP:mainGlobals≠U.tabA:=fun q=>by
  obtain⟨o,es,ep,e,hd,_⟩:=hgs
  rw[q,g1]at e;cases e;cases hd
 have hbP:bm≠U.tabA:=fun q=>by
  have e:=F.keep _ _ b3
  rw[q,g1]at e;cases e;cases b4
 have hbG:bm≠mainGlobals:=fun q=>by
  obtain⟨o,es,ep,e,hd,_⟩:=T.g
  rw[q,e]at b3;cases b3;rw[hd]at b6;cases b6
 cases hf:codeAmong lp ps.toList with
 | none=>
  refine kla_makeFunction (mg:=U.mg) (CF (k.cells ek)) ek.glo hgs hcode (hCd.keeps F.keep) g1 tok hf hgP ⟨bm,ob,b1,b2,hbG,hbP,F.keep _ _ b3,b4,b5,b6⟩ fun c' ctv h' tk hx hge Ef hrec htb=> ?_
  obtain⟨c₂,oc,vs,t,e2,hoc,hd,hv⟩:=hrec
  cases e2
  have hp:∀b o,h'.get? b=some o->(h'.push (kla_obj "<lambda>" CW params body sc (Bm env.cells sc.names []) ((U.mg "__name__").getD .none) c' ctv)).get? b=some o:=fun b o e=>Dx _ e
  refine h _ _ c' ctv _ tk (re _ _ _ [(c',oc)] _ (fun b o hb e=>hp b o (hx b o hb e)) (hp _ _ htb) ?_ ?_ ?_ ?_ (Nat.le_of_lt (Nat.lt_of_le_of_lt hge Ef)) (Heap.get?_push_size _ rfl)) ⟨c',oc,vs,t,rfl,hp _ _ hoc,hd,hv⟩
  .rw [Array.toList_append];exact TriplesOk_snoc _ _ _ _ tok
  .intro q cv e
   rw[Array.toList_append]at e
   rcases Jy tok e with e | rfl
   .obtain ⟨a,b,c,d,e1,e2,e3⟩:=cin q cv e
    exact⟨a,b,c,d,e1,.tail _ e2,e3⟩
   .exact ⟨c',oc,vs,t,rfl,.head _,hd,hv⟩
  .intro q hq
   rcases List.mem_singleton.mp hq with rfl
   exact⟨hge,Ef,hp _ _ hoc⟩
  .exact List.nodup_cons.mpr ⟨by simp,List.nodup_nil⟩
 | some cv=>
  obtain⟨c',oc,vs,t,rfl,hm,hd,hv⟩:=cin lp cv hf
  refine kla_makeFunctionHit (mg:=U.mg) (CF (k.cells ek)) ek.glo hgs hcode (hCd.keeps F.keep) g1 tok hf ⟨bm,ob,b1,b2,hbG,hbP,F.keep _ _ b3,b4,b5,b6⟩ fun ctv h' tk hk hsz=> ?_
  have hp:∀b o,s.heap.get? b=some o->(h'.push (kla_obj "<lambda>" CW params body sc (Bm env.cells sc.names []) ((U.mg "__name__").getD .none) c' ctv)).get? b=some o:=fun b o e=>Dx _ (hk b o e)
  refine h _ _ c' ctv _ tk (re _ _ ps [] _ (fun b o J e=>hp b o e) (hp _ _ g1) tok (by simpa using cin) (by intro q hq;cases hq) List.nodup_nil hsz (Heap.get?_push_size _ rfl)) ⟨c',oc,vs,t,rfl,hp _ _ (gc _ hm),hd,hv⟩
end
section
variable{X0:Fx}{lenv lf:PySem.Env}{lp:Pos}{c:Addr}{params:Arguments}{body:Expr}{sc:Scope}{R:Result->Shared->Prop}
theorem BS{l:Dm}{x:Str}{k:NameKind}(e:l.lookup x=some k):(x,k) ∈ l:=by
 induction l with
 | nil=>cases e
 | cons p r ih=>
  rw[List.lookup_cons]at e
  cases q:x==p.1 with
  | true=>rw[q]at e;cases e;rw[eq_of_beq q];exact .head _
  | false=>rw[q]at e;exact .tail _ (ih e)
theorem IL.lk(k:IL ns Γ params sc){x:Str}(h:sc.names.lookup x=some .local\/sc.names.lookup x=some .cell\/sc.names.lookup x=some .free):sc.names.lookup x=some .free/\ns.lookup x=some .cell:=by
 rcases h with h | h | h
 .rcases k.all _ (BS h)with⟨e,_⟩ | e<;>cases e
 .rcases k.all _ (BS h)with⟨e,_⟩ | e<;>cases e
 .rcases k.all _ (BS h)with⟨_,e,_⟩ | e
  .exact ⟨h,e⟩
  .cases e
set_option tactic.hygienic true in
theorem Re{m:ME Fn}{f c':Addr}{pm ctv:Value}(cx:Cx U A X Ad n)(hr:DI A n 2)(x:AL U X ρ H s.heap)(k:IL ns Γ params sc)(lek:AJ X0 lf lenv ns)(eo:EO U X0 ρ lenv Γ vs)(hsub:∀p ∈ X0.px,p ∈ X.px)
  (ho:(f,kla_obj "<lambda>" CW params body sc (Bm lenv.cells sc.names []) pm c' ctv) ∈ X.px) (hcd:s.heap.CodeRec (.ref c') CW)
  (hse:∀A' X' Ai,Cx U A' X' Ai n->DI A' n 1->AJ X' Ai Ai sc.names->SE U xc C A' X' Ai Γ m body)
  (hp:Ae (Aq U) U xc X ρ (Ac C m vs H) (fun v s'=>R (.ok (.ret v)) s') (fun e s'=>R (.error e) s') s):
  codeAny (model U.prog U.w) A (.call (.ref f) ⟨[],[]⟩) R s:=by
 obtain⟨A₀,outer,B,hl⟩:=cx.B
 have hA:=cx.hA
 obtain⟨F,ps,p,N,D,lo⟩:=x
 have hA':=hA
 rw[hl]at hA'
 refine kla_code (binds:=[]) (news:=X.px++ps.flatten) B F cx.gf.K N cx.gf.T hA' cx.hf cx.hk (B1 _ ho) hcd (by have:=cx.hd;exact Nat.lt_of_le_of_lt (Nat.le_trans (Nat.le_add_right _ _) (Nat.le_add_right _ _)) ‹_›) (by rw[k.ps];rfl) (by intro y hy;cases hy) (fun g L' h₁ FG F' N' BG _ _=> ?_) k.co k.gen k.kind ?_
 .generalize B8:envX CW sc L' f (.ref c') (Bm lenv.cells sc.names [])=Ai
  let X':Fx:={ G:=g,L:=L',m:=fun y=>([]:List (Str×Value)).reverse.lookup y,own:=[],ex:=X.px,base:=X.base,l:=Ai::X.l}
  have hcells:Ai.cells=Bm lenv.cells sc.names []:=by rw[<-B8]
  have hnames:Ai.scope.names=sc.names:=by rw[<-B8]
  have hkd:∀y,Ai.kindOf y=sc.names.lookup y:=fun y=>by unfold PySem.Env.kindOf;rw[hnames]
  have hlk:∀y,sc.names.lookup y=some .free->(Bm lenv.cells sc.names []).lookup y=lenv.cells.lookup y/\(lenv.cells.lookup y).isSome=true:=fun y hy=>
   ⟨CE _ _ (k.cells lek) (.inl (BS hy)) (.inl rfl),k.cells lek _ (BS hy) rfl⟩
  have gf':GF U g:=cx.gf.keeps FG.keep
  have hdp:(A.deeper Ai).depth=A.depth+1:=rfl
  have hun:(A.deeper Ai).units=A.units+3:=rfl
  have cx':Cx U (A.deeper Ai) X' Ai n:=by
   refine⟨⟨A,X.l,?_,rfl⟩,PySem.Around.frames_deeper hA,by rw[<-B8],by rw[<-B8];exact k.kind,cx.hh,?_,?_,gf'⟩
   .show Below A X.base X.l g
    rw[hl];exact BG
   .rw [hdp];have:=hr.1;exact YS ‹_› (by rfl)
   .rw [hun];have:=hr.2;exact YS ‹_› (by rfl)
  have rm:DI (A.deeper Ai) n 1:=by
   constructor
   .rw [hdp];have:=hr.1;exact dF ‹_› (by rfl)
   .rw [hun];have:=hr.2;exact dF ‹_› (by rfl)
  have ek':AJ X' Ai Ai sc.names:=by
   refine⟨hnames,by rw[<-B8];exact k.kind,by rw[<-B8],by rw[<-B8],by rw[<-B8],fun y hy=> ?_⟩
   rw[hcells]
   rw[hkd]at hy
   have hy':=(k.lk (.inr hy)).1
   rw[(hlk y hy').1];exact(hlk y hy').2
  have eo':EO U X' ρ Ai Γ vs:=by
   refine⟨eo.len,fun i v y h1 h2 h3=> ?_⟩
   rw[hkd]at h3
   have h4:sc.names.lookup y=some .local\/sc.names.lookup y=some .cell\/sc.names.lookup y=some .free:=by
    unfold bN at h3
    split at h3
    .rename_i e;exact .inl e
    .rename_i e;exact .inr (.inl e)
    .rename_i e;exact .inr (.inr e)
    .cases h3
   obtain⟨hf,hn⟩:=k.lk h4
   have hlk':lenv.kindOf y=some .cell:=by unfold PySem.Env.kindOf;rw[lek.names];exact hn
   obtain⟨z,hz,lz⟩:=eo.get i v y h1 h2 (by rw[hlk'];rfl)
   refine⟨z,hz,?_⟩
   rcases lz with⟨e,_⟩ | ⟨_,cc,o,b1,b2,b3⟩ | ⟨e,_⟩
   .rw [hlk']at e;cases e
   .refine .inr (.inl ⟨.inr ((hkd y).trans hf),cc,o,?_,?_,b3⟩)
    .rw [hcells,(hlk y hf).1];exact b1
    .exact C9 _ (hsub _ b2)
   .rw [hlk']at e;cases e
  have x':AL U X' ρ H h₁:=⟨F',ps,p,N',D,lo⟩
  refine hse _ X' Ai cx' rm ek' ρ H _ vs _ _ x' eo' ?_
  unfold Ae at hp ⊢
  cases e:Ac C m vs H with
  | bad=>rw[e]at hp;exact hp
  | ok v H1=>
   rw[e]at hp
   intro ρ2 v' h2 tk2 l2 F2 r2
   obtain⟨Fr2,ps2,p2,N2,D2,lo2⟩:=F2
   refine leaveK_ (L':=X'.L) (m':=X'.m) Fr2 N2 fun FX NX=> ?_
   exact hp ρ2 v' h2 tk2 l2 ⟨FX,ps2,p2,NX,D2,lo2⟩ r2
  | exc msg H1=>
   rw[e]at hp
   intro ρ2 e2 h2 tk2 l2 E2
   obtain⟨ps2,h₂,p2,D2,lo2,st2,Fr2,u2⟩:=E2
   refine Je (env:=Ai) (outer:=X.l) (PySem.Around.frames_deeper hA) (by rw[<-B8]) st2 X.L fun h'' k1 k2=>hp ρ2 e2 h'' tk2 l2 ?_
   exact⟨ps2,g,p2,D2,lo2,k1,FG,((Heap.UpToSlots.of_keeps Fr2.keep).trans u2).trans k2⟩
 .intro y hy e
  rcases k.all y hy with⟨q,_⟩ | q<;>rw[q]at e<;>cases e
end
inductive Wk(B:Heap)(cls:Value)(e d:Addr)(h:Heap):Prop
 | mk (oe:_) (vs:_) (q0:h.get? e=some oe) (q1:oe.cls=cls) (q2:oe.dict=some d) (q3:oe.data=.fields vs) (q4:vs[1]? =some .none\/∃T oT ts,vs[1]? =some (.ref T)/\B.get? T=none/\T≠e/\h.get? T=some oT/\oT.data=.fields ts/\3 < ts.size):Wk B cls e d h
structure Nn(B:Heap)(L L₁:Addr)(mL m1:Str->Option Value)(cls:Value)(e d:Addr)(h:Heap):Prop where
 nsL:h.Ns L mL
 ns1:h.Ns L₁ m1
 st:B.StaysIn h
 eo:Wk B cls e d h
section
variable{M:Model}{B:Heap}{L L₁ e d:Addr}{mL m1:Str->Option Value}{cls:Value}
theorem Nn.flight(x:Nn B L L₁ mL m1 cls e d s.heap){Q:Unit->Shared->Prop}(hQ:∀h',Nn B L L₁ mL m1 cls e d h'->Q () { s with heap:=h'}):wpAny M A (setFlight (.ref e) none) Q E s:=by
 obtain⟨a1,a2,a3,oe,vs,h1,h2,h3,h4,h6⟩:=x
 unfold setFlight
 rcases h6 with h6 | ⟨T,oT,ts,h6,h7,h8,h9,h10,h11⟩
 .refine As (wpAny_field h1 h4 h6 ?_)
  rw[if_neg (by decide)]
  exact BH (hQ s.heap ⟨a1,a2,a3,oe,vs,h1,h2,h3,h4,.inl h6⟩)
 .refine As (wpAny_field h1 h4 h6 ?_)
  rw[if_pos (show(Value.ref T != Value.none)=true from by simp)]
  have other:∀b,b≠T->(s.heap.update T (Obj.mapFields (·.setIfInBounds 3 (((none:Option Addr).elim Value.none fun f=>rawInt f))))).get? b=s.heap.get? b:=fun b hb=>Heap.get?_update_other _ _ (Ne.symm hb)
  have ns:∀{a:Addr} {m:Str->Option Value},s.heap.Ns a m->a≠T:=fun hn q=>by
   obtain⟨o,es,ep,ho,hd,_⟩:=hn
   rw[q,h9]at ho;cases ho
   rw[h10]at hd;cases hd
  refine wpAny_setField h9 h10 h11 (hQ _ ⟨?_,?_,?_,oe,vs,(other e (Ne.symm h8)).trans h1,h2,h3,h4,.inr ⟨T,_,_,h6,h7,h8,Heap.get?_update_self _ h9 (Obj.isFreed_of_fields (Obj.data_mapFields h10 _)),Obj.data_mapFields h10 _,by simpa using h11⟩⟩)
  .obtain ⟨o,es,ep,ho,r⟩:=a1
   exact⟨o,es,ep,(other _ (ns ⟨o,es,ep,ho,r⟩)).trans ho,r⟩
  .obtain ⟨o,es,ep,ho,r⟩:=a2
   exact⟨o,es,ep,(other _ (ns ⟨o,es,ep,ho,r⟩)).trans ho,r⟩
  .exact fun b o hb=>(other b fun q=>by rw[q,h7]at hb;cases hb).trans (a3 b o hb)
theorem Nn.over{h h':Heap}{m1':Str->Option Value}(x:Nn B L L₁ mL m1 cls e d h)(hL:L≠L₁)(hB:B.get? L₁=none)(hn:h'.Ns L₁ m1')(hs:Heap.SameBut L₁ h h'):Nn B L L₁ mL m1' cls e d h':=by
 obtain⟨a1,a2,a3,oe,vs,h1,h2,h3,h4,h6⟩:=x
 have nd:∀{a:Addr} {o:Obj} {vs:Array Value},h.get? a=some o->o.data=.fields vs->a≠L₁:=fun ho hd q=>by
  obtain⟨o,es,ep,ho',hd',_⟩:=a2
  rw[q,ho']at ho;cases ho
  rw[hd']at hd;cases hd
 refine⟨?_,hn,fun b o hb=>hs.extBut b o (fun q=>by rw[q,hB]at hb;cases hb) (a3 b o hb),oe,vs,hs.extBut _ _ (nd h1 h4) h1,h2,h3,h4,?_⟩
 .exact a1.extBut hs.extBut hL
 .rcases h6 with h6 | ⟨T,oT,ts,h6,h7,h8,h9,h10,h11⟩
  .exact .inl h6
  .exact .inr ⟨T,oT,ts,h6,h7,h8,hs.extBut _ _ (nd h9 h10) h9,h10,h11⟩
inductive Mh(L:Addr)(L₁:Addr)(e:Addr)(mL:Str->Option Value)(m1:Str->Option Value)(cls:Value)(base:Heap)(h:Heap)(msg:Nat)(news:List (Addr×Obj)):Prop
 | mk (B:_) (d:_) (es:_) (n:_) (t:_) (q0:base.StaysIn B) (q1:(∀q ∈ news,B.get? q.1=some q.2/\base.get? q.1=none)) (q2:B.get? L₁=none) (q3:B.get? L=none) (q4:B.get? d=some (W.dictOf es n)) (q5:getL "message" es=some (some (.str (wd msg) t))) (q6:Nn B L L₁ mL m1 cls e d h):Mh L L₁ e mL m1 cls base h msg news
theorem UR{base:Heap}{l:List PySem.Env}{h h₂:Heap}{msg:Nat}{news:List (Addr×Obj)}(x:Ew cls base l L₁ e msg news h)(hl:L₁ ∈ l.filterMap (·.frame))(hl2:L ∈ l.filterMap (·.frame))(nL:h₂.Ns L mL)(n1:h₂.Ns L₁ m1)(u:h₂.UpToSlots h):Mh L L₁ e mL m1 cls base h msg news:=by
 obtain⟨B,d,es,n,t,b1,b2,b3,b4,b5,⟨oe,vs,h1,h2,h3,h4,h5,h6⟩,b7,b8⟩:=x
 refine⟨B,d,es,n,t,b1,b2,(b5.mem hl).1,(b5.mem hl2).1,b7,b8,u.ns nL,u.ns n1,b3,oe,vs,h1,h2,h3,h4,?_⟩
 rcases h6 with h6 | ⟨T,oT,ts,h6,h7,h8,h9,h10,h11⟩
 .exact .inl h6
 .refine .inr ⟨T,oT,ts,h6,h7,h8,h9,h10,?_⟩
  rcases h11 with h | h<;>exact(Array.getElem?_eq_some_iff.mp h).1
end
noncomputable abbrev EE(p1 p2 p3 p4 p5 p6 p7 p8 p9:Pos):List Stmt:=
 [.Try [.Return (some (.Call (.Name "ask" p1) [] [] p2)) p3] [.ExceptHandler (some (.Name "Refusal" p4)) (some "error") [.Return (some (.Attribute (.Name "error" p5) "message" p6)) p7] p8] [] [] p9]
inductive Sj(U:Un)(fK:Addr):Prop
 | mk (oc od osl name qual params scope dV kV doc pm an cdv ct p1 p2 p3 p4 p5 p6 p7 p8 p9:_) (h0:U.K.lookup fK=some ⟨oc,od,.func (fnX name qual params (EE p1 p2 p3 p4 p5 p6 p7 p8 p9) scope [] dV kV doc pm an cdv ct),osl⟩) (h1:codeIn U.K cdv qual=true) (h2:scope.kind=.function) (h3:scope.isCoroutine=false) (h4:scope.isGenerator=false) (h5:(∀x ∈ scope.names,x.2≠.cell)) (h6:scope.names.lookup ("ask":Str)=some .local) (h7:scope.names.lookup ("error":Str)=some .local) (h8:scope.names.lookup ("Refusal":Str)=some .globalImplicit) (h9:∀s a,U.K.In s.heap->BindsTo s (fnX name qual params (EE p1 p2 p3 p4 p5 p6 p7 p8 p9) scope [] dV kV doc pm an cdv ct) ⟨[a],[]⟩ [("ask",a)]):Sj U fK
structure UK(U:Un)(fK:Addr):Prop where
 name:nsIn U.K mainGlobals "_law_kept"=some (some (.ref fK))
 keep:keepIn U.K (.ref fK)=true
 fn:Sj U fK
section
variable{Ce D fI fK f:Addr}{cd:ClassData}{R:Result->Shared->Prop}{r:Mine.R V}{o:Obj}
noncomputable def RJ:Mine.R V->Mine.R V
 | .exc e H'=> .ok (.w e) H'
 | r=>r
theorem Cx.framesIn(cx:Cx U A X Ad n):X.L ∈ X.l.filterMap (·.frame):=by
 obtain⟨A₀,outer,_,hl⟩:=cx.B
 rw[hl]
 exact List.mem_filterMap.mpr ⟨Ad,.head _,cx.hf⟩
theorem M6(uk:UK U fK)(ue:UE U Ce D fI cd)(cx:Cx U A X Ad n)(hr:DI A n 3)(hb:X.base=X.G)(x:AL U (X.withEx ((f,o)::X.ex)) ρ H s.heap)(hfo:∃fd,o.data=.func fd)
  (hrun:∀A₁ X₁ env₁ h₁ tk R',Cx U A₁ X₁ env₁ n->DI A₁ n 2->X₁.px=X.own++(f,o)::X.ex->(∀b o,s.heap.get? b=some o->h₁.get? b=some o)->AL U X₁ ρ H h₁->
   Ae (Aq U) U (.ref Ce) X₁ ρ r (fun v s'=>R' (.ok (.ret v)) s') (fun e s'=>R' (.error e) s') { s with heap:=h₁,toks:=tk}->codeAny (model U.prog U.w) A₁ (.call (.ref f) ⟨[],[]⟩) R' { s with heap:=h₁,toks:=tk})
  (hp:Ae (Aq U) U (.ref Ce) X ρ (RJ r) (fun v s'=>R (.ok (.ret v)) s') (fun e s'=>R (.error e) s') s):
  codeAny (model U.prog U.w) A (.call (.ref fK) ⟨[.ref f],[]⟩) R s:=by
 obtain⟨A₀,outer,B,hl⟩:=cx.B
 have hA:=cx.hA
 obtain⟨oc,od,osl,name,qual,params,scope,dV,kV,doc,pm,an,cdv,ct,p1,p2,p3,p4,p5,p6,p7,p8,p9,hfn,hcd,sk,sco,sgen,scell,sask,serr,sref,bind⟩:=uk.fn
 have KI:=cx.gf.K.keeps x.fr.keep
 obtain⟨F,ps,p,N,D',lo⟩:=x
 have hA':=hA
 rw[hl]at hA'
 obtain⟨FG,BG,st,lv⟩:=groundX (R:=R) (news:=(X.withEx ((f,o)::X.ex)).px++ps.flatten) B F N hA' cx.hf cx.hk
 have hgf:s.heap.get? f=some o:=(N (f,o) (by simp[Fx.px])).1
 refine codeAny_call_def (fd:=fnX name qual params (EE p1 p2 p3 p4 p5 p6 p7 p8 p9) scope [] dV kV doc pm an cdv ct) (body:=EE p1 p2 p3 p4 p5 p6 p7 p8 p9) (binds:=[("ask",.ref f)]) (by have:=cx.hd;exact Nat.lt_of_le_of_lt (Nat.le_trans (Nat.le_add_right _ _) (Nat.le_add_right _ _)) ‹_›) (KI _ _ hfn) rfl (cx.gf.nolimit.keeps F.keep) (codeRec_of KI hcd) rfl (bind _ _ KI) scell (by intro y hy;rcases List.mem_singleton.mp hy with rfl;exact sask) (fun h₁ Dn hk₁=> ?_) sco sgen sk
 generalize B8:callEnv (fnX name qual params (EE p1 p2 p3 p4 p5 p6 p7 p8 p9) scope [] dV kV doc pm an cdv ct) s.heap.objs.size fK=env₁
 generalize hg:hideAll s.heap (((X.withEx ((f,o)::X.ex)).px++ps.flatten).map (·.1))=g at FG BG st lv
 let X₁:Fx:={ G:=g,L:=s.heap.objs.size,m:=fun y=>([("ask",.ref f)]:List (Str×Value)).reverse.lookup y,own:=[],ex:=X.own++(f,o)::X.ex,base:=X.base,l:=env₁::X.l}
 have hfr₁:env₁.frame=some s.heap.objs.size:=by rw[<-B8];rfl
 have hglo:env₁.globals=mainGlobals:=by rw[<-B8];rfl
 have hloc₁:env₁.locals=s.heap.objs.size:=by rw[<-B8];rfl
 have hnames:env₁.scope.names=scope.names:=by rw[<-B8];rfl
 have hkind:env₁.scope.kind=.function:=by rw[<-B8];exact sk
 have hkd:∀y,env₁.kindOf y=scope.names.lookup y:=fun y=>by unfold PySem.Env.kindOf;rw[hnames]
 have gf':GF U g:=cx.gf.keeps st
 have hdp:(A.deeper env₁).depth=A.depth+1:=rfl
 have hun:(A.deeper env₁).units=A.units+3:=rfl
 have F₁:Fr g s.heap.objs.size h₁ X₁.m:=⟨Dn,fun b o e=>hk₁ b o (of_hideAll _ (by rw[hg];exact e)),Nat.le_of_eq (by rw[<-hg];exact hideAll_size _ _)⟩
 have N₁:News g s.heap.objs.size h₁ (X₁.px++ps.flatten):=fun q hq=>⟨hk₁ _ _ (N q hq).1,Nat.ne_of_lt (Heap.lt_size (N q hq).1),by rw[<-hg];exact hideAll_none _ (List.mem_map_of_mem hq)⟩
 have x₁:AL U X₁ ρ H h₁:=⟨F₁,ps,p,N₁,D',lo⟩
 have cx₁:Cx U (A.deeper env₁) X₁ env₁ n:=by
  refine⟨⟨A,X.l,?_,rfl⟩,PySem.Around.frames_deeper hA,hfr₁,hkind,cx.hh,?_,?_,gf'⟩
  .show Below A X.base X.l g
   rw[hl];exact BG
  .rw [hdp];have:=hr.1;exact YS ‹_› (by rfl)
  .rw [hun];have:=hr.2;exact YS ‹_› (by rfl)
 have rm₁:DI (A.deeper env₁) n 2:=by
  constructor
  .rw [hdp];have:=hr.1;exact dF ‹_› (by rfl)
  .rw [hun];have:=hr.2;exact dF ‹_› (by rfl)
 have hpx:∀q ∈ X.px++ps.flatten,q ∈ X₁.px++ps.flatten:=fun q hq=>by
  simp only [X₁,Fx.px,List.nil_append,List.append_assoc,List.mem_append,List.cons_append,List.mem_cons]at hq ⊢
  rcases hq with h | h | h
  .exact .inl h
  .exact .inr (.inr (.inl h))
  .exact .inr (.inr (.inr h))
 have dsub:∀ps':List (Addr×Obj),BC (X₁.px++ps')->BC (X.px++ps'):=fun ps' h=>by
  unfold BC at h ⊢
  refine h.sublist (List.Sublist.map _ ?_)
  refine List.Sublist.append ?_ (List.Sublist.refl _)
  show(X.own++X.ex).Sublist ([]++(X.own++(f,o)::X.ex))
  rw[List.nil_append]
  exact(List.sublist_cons_self _ _).append_left _
 refine wpAny_execs_cons (wpAny_Try_except (wpAny_execs_cons (wpAny_Return_some ?_)))
 refine Vo fun QA EA hQA hEA=> ?_
 refine By (wpAny_Name (wpAny_loadName_local hkind ((hkd _).trans sask) (by rw[hloc₁];exact Dn) (v:= .ref f) rfl ?_) (by decide))
 obtain⟨fd,hfd⟩:=hfo
 have hfn₁:FnAt f h₁:=by
  obtain⟨a,b,c,e⟩:=o
  dsimp only at hfd
  subst hfd
  exact⟨a,b,fd,e,hk₁ _ _ hgf⟩
 refine Au (P:=FnAt f) (es:=[]) rfl (fun h X=>keeps_F h X) ?_
 refine wpAny_items_nil ⟨hfn₁,wpAny_call ?_⟩
 refine hrun (A.deeper env₁) X₁ env₁ h₁ _ _ cx₁ rm₁ rfl hk₁ x₁ ?_
 cases r with
 | bad=>exact hp
 | ok v H1=>
  intro ρ2 v' h2 tk2 l2 F2 r2
  obtain⟨Fr2,ps2,p2,N2,D2,lo2⟩:=F2
  refine hQA _ _ (lv _ _ (leaveK_ (L':=X₁.L) (m':=X₁.m) Fr2 N2 fun FX NX=> ?_))
  refine hp ρ2 v' h2 tk2 l2 ⟨FX,ps2,p2,DE NX fun q hq=> ?_,dsub _ D2,lo2⟩ r2
  simp only [X₁,Fx.px,List.nil_append,List.append_assoc,List.mem_append,List.cons_append,List.mem_cons]at hq ⊢
  rcases hq with h | h | h
  .exact .inl h
  .exact .inr (.inr (.inl h))
  .exact .inr (.inr (.inr h))
 | exc msg H1=>
  intro ρ2 e h2 tk2 l2 E2
  obtain⟨ps2,h₂,q2,D2,lo2,st2,Fr2,u2⟩:=E2
  refine hEA _ _ ?_
  refine I7 (s:={ s with heap:=h2,toks:=tk2}) (L':=X₁.L) (PySem.Around.frames_deeper hA) hfr₁ st2 rfl fun h3 k1 k2=> ?_
  refine FY (env:=env₁) (s:={ s with heap:=h3,toks:=tk2}) (L:=X₁.L) k1 (.inl rfl) fun h4 k3 J J k4=> ?_
  refine Vo fun QB EB hQB hEB=> ?_
  have u4:=(u2.trans k2).trans k4
  have hXL:g.Ns X.L X.m:=FG.ns
  have hX2:h₂.Ns X.L X.m:=hXL.keeps Fr2.keep
  have fr1:X₁.L ∈ X₁.l.filterMap (·.frame):=List.mem_filterMap.mpr ⟨env₁,.head _,hfr₁⟩
  have fr0:X.L ∈ X₁.l.filterMap (·.frame):=by
   obtain⟨e',he',hf'⟩:=List.mem_filterMap.mp cx.framesIn
   exact List.mem_filterMap.mpr ⟨e',.tail _ he',hf'⟩
  obtain⟨BB,d,es,nn,t,b1,b2,bL1,bL,b7,b8,hd⟩:=UR (L:=X.L) k3 fr1 fr0 hX2 Fr2.ns u4
  have JK:X.L≠s.heap.objs.size:=Nat.ne_of_lt F.ns.lt
  have KB:U.K.In BB:=by
   have:=cx.gf.K
   rw[<-hb]at this
   exact this.keeps b1
  have hns4:h4.Ns mainGlobals U.mg:=by
   have:=cx.gf.T.g
   rw[<-hb]at this
   exact(this.keeps b1).keeps hd.st
  obtain⟨nm,qq,N',bs,hdct,sn,sub,ab,col,dd,c0,c1,c2,c3,c5,hobj⟩:=ue.obj
  refine wpAny_handleBy_cons (codeAny_handlers_test ?_) (by intro q;cases q)
  refine Name_function_global hkind ((hkd _).trans sref) ?_ (by decide)
  refine loadGlobal_global (mg:=U.mg) (by rw[hglo];exact hns4) (mg_of cx.gf.K cx.gf.T.g ue.name) ?_
  obtain⟨oe,vs,g1,g2,g3,g4,g5⟩:=hd.eo
  refine wpAny_excMatches_sub_self (hd.st _ _ (KB _ _ hobj)) g1 g2 rfl ?_
  refine codeAny_handlers_suite_as (hd.flight (s:={ s with heap:=h4,toks:=tk2}) fun h5 hd5=> ?_)
  refine Vo fun QC EC hQC hEC=> ?_
  have hpk:(env₁.scope.kind== .class||(env₁.scope.kind== .module&&env₁.locals != env₁.globals))=false:=by rw[hkind];rfl
  refine wpAny_storeName_local ((hkd _).trans serr) (by rw[hloc₁];exact hd5.ns1) (fun h6 hn6 hs6=> ?_) hpk
  rw[hloc₁]at hn6 hs6
  have hd6:=hd5.over JK bL1 hn6 hs6
  obtain⟨oe6,vs6,i1,i2,i3,i4,_⟩:=hd6.eo
  have K6:U.K.In h6:=KB.keeps hd6.st
  have hdi:hasDictIn U.K Ce=true:=by unfold hasDictIn;rw[ue.cls];exact ue.hd
  refine hQC _ _ ?_
  refine Vo fun QD ED hQD hED=> ?_
  refine wpAny_execs_cons (wpAny_Return_some (Attribute_any_ (wpAny_Name (wpAny_loadName_local hkind ((hkd _).trans serr) (by rw[hloc₁];exact hn6) (v:= .ref e) (if_pos rfl) ?_) (by decide)) ?_))
  .refine T6 (s:={ s with heap:=h6,toks:=tk2+1}) (n:=nn) K6 ⟨i1,i2,by unfold notCls;rw[i4],by rw[i3];exact hd6.st _ _ b7⟩ ue.cls ue.mro ue.hga ue.hgt hdi ue.hmsg rfl b8 rfl ?_
   refine hQD _ _ ?_
   refine wpAny_nameGoes (s:={ s with heap:=h6,toks:=tk2+1+1}) ((hkd _).trans serr) (by rw[hloc₁];exact hn6) hpk fun h7 m7 hn7 hs7=> ?_
   rw[hloc₁]at hn7 hs7
   have hd7:=hd6.over JK bL1 hn7 hs7
   refine hQB _ _ ?_
   refine hp ρ2 (.str (wd msg) t) h7 _ l2 ⟨⟨hd7.nsL,fun b o q=> ?_,F.above⟩,ps2,q2,fun q hq=> ?_,dsub _ D2,lo2⟩ ⟨t,rfl⟩
   .rw [<-hb]at q;exact hd7.st _ _ (b1 _ _ q)
   .have hq':q ∈ X₁.px++ps2.flatten:=by
     simp only [X₁,Fx.px,List.nil_append,List.append_assoc,List.mem_append,List.cons_append,List.mem_cons]at hq ⊢
     rcases hq with h | h | h
     .exact .inl h
     .exact .inr (.inr (.inl h))
     .exact .inr (.inr (.inr h))
    have y:=b2 q hq'
    refine⟨hd7.st _ _ y.1,fun z=> ?_,by rw[<-hb];exact y.2⟩
    rw[z,bL]at y;cases y.1
  .show (do let o <-attributeBase (.Name ("error":Str) p5) ("message":Str) env₁ (eval (.Name ("error":Str) p5) env₁);_:Sem Value)=_
   rw[C3 rfl]
end
section
variable{Ce D fI fK c:Addr}{cd:ClassData}
theorem JH{h h':Heap}{cv:Value}{q:Str}(x:h.CodeRec cv q)(k:∀b o,h.get? b=some o->h'.get? b=some o):h'.CodeRec cv q:=by
 obtain⟨a,o,vs,t,e,ho,r⟩:=x
 exact⟨a,o,vs,t,e,k _ _ ho,r⟩
theorem P7(uk:UK U fK)(ue:UE U Ce D fI cd)(cx:Cx U A X env n)(ek:AJ X env env ns)(hr:DI A n 3)(hb:X.base=X.G)(hcode:env.code=.ref c)(hCd:CodeHd X.G c U.tabA)(hq:env.qual++"<lambda>"=CW):
  Jn U (.ref Ce) C A X env Γ ns n:=by
 intro m params body sc lp np pos hg hlam hse ρ H s vs Q E x eo hp
 change Ae _ _ _ _ _ (ite _ _ _) _ _ _ at hp
 by_cases h0:H[0]? =some .tab
 .rw [if_pos h0]at hp
  have k:=RR hlam
  refine By (Dw ek cx.gf x hg uk.name ?_)
  refine Au (P:=U.K.In) rfl (fun h X=>keeps_K uk.keep h X) ?_
  refine spliced_more (Ry cx ek hcode hCd hq x h0 k fun f pm c' ctv h' tk x' hcd'=> ?_) (AH rfl)
  have KI:=cx.gf.K.keeps x'.fr.keep
  refine wpAny_items_nil ⟨KI,wpAny_call ?_⟩
  refine M6 (r:=Ac C m vs H) uk ue cx hr hb x' ⟨_,rfl⟩ (fun A₁ X₁ env₁ h₁ tk R' cx₁ rm₁ hpx hk x₁ hp₁=> ?_) ?_
  .refine Re cx₁ rm₁ x₁ k ek eo (fun p hp=> ?_) (by rw[hpx];exact C9 _ (.head _)) (JH hcd' hk) hse hp₁
   rw[hpx]
   rcases List.mem_append.mp hp with hp | hp
   .exact B1 _ hp
   .exact C9 _ (.tail _ hp)
  .have e2:JV (Ac C m vs) H=RJ (Ac C m vs H):=by unfold JV RJ;rfl
   rw[e2]at hp
   exact hp
 .rw [if_neg h0]at hp;exact hp.elim
end
inductive VX(U:Un)(fL c:Addr):Prop
 | mk (oc od osl name qual params body scope dV kV doc pm an ct:_) (h0:U.K.lookup fL=some ⟨oc,od,.func (fnX name qual params body scope [] dV kV doc pm an (.ref c) ct),osl⟩) (h1:codeIn U.K (.ref c) qual=true) (h2:Q9 scope ((Γf .AZ).take 1)) (h3:Gr true scope.names (Γf .AZ) (prog .AZ).body body=true) (h4:(qual++".<locals>.")++"<lambda>"=CW) (h5:∀s a,U.K.In s.heap->BindsTo s (fnX name qual params body scope [] dV kV doc pm an (.ref c) ct) ⟨[a],[]⟩ (((Γf .AZ).take 1).zip [a])):VX U fL c
structure LK(U:Un)(fL c:Addr):Prop where
 fn:VX U fL c
 hdc:codeHdIn U.K c U.tabA=true
theorem Ir:(prog .AZ).params=1:=by rfl
theorem Tb:(prog .AZ).dflt=[]:=by rfl
section
variable{Aa:List Int}{bg:Fi}{G:Heap}{fL c fK:Addr}{d:Nat}{R:Result->Shared->Prop}
theorem Vm(tx:Txt U xc fa Aa bg)(uk:UK U fK)(lk:LK U fL c)(gf:GF U G)(hlim:s.heap.NoLimit)(KI:U.K.In s.heap)(hG:∀b o,G.get? b=some o->s.heap.get? b=some o)(hsz:G.objs.size<=s.heap.objs.size)
  (hP:s.heap.get? U.tabA=some (tabObj #[])) (hGP:G.get? U.tabA=none) (h3:3 < U.tabA) (hd1:400+8 * d < recursionLimit) (hd2:1000+200 * d < cLine)
  (hm:∃H',D8 prog Aa bg initOf (d+1) .AZ [.ext] [.tab]=.ok (.bool true) H'/\H'[0]? =some .tab)
  (hR:∀h' CG,(∀b o,G.get? b=some o->h'.get? b=some o)->GrownAt U.tabA h'->R (.ok (.ret (.bool true))) { s with heap:=h',toks:=CG}):
  codeAny (model U.prog U.w) callerA (.call (.ref fL) ⟨[.ref U.sa],[]⟩) R s:=by
 obtain⟨oc,od,osl,name,qual,params,body,scope,dV,kV,doc,pm,an,ct,hl,hcd,sc,Ls,hq,hbind⟩:=lk.fn
 have sh:=NE .AZ
 unfold K4 at sh
 simp only [DK,decide_eq_true_eq,List.all_eq_true]at sh
 obtain⟨⟨⟨⟨nd,Ba⟩,hpv⟩,hdf⟩,hdl⟩:=sh
 have Ba:=eq_of_beq Ba
 have hb':=hbind s (.ref U.sa) KI
 have hl1:((Γf .AZ).take 1).length=1:=by rw[List.length_take];rw[Ir]at hpv;exact Nat.min_eq_left (Ba▸hpv)
 have bn:(((Γf .AZ).take 1).zip [Value.ref U.sa]).map (·.1)=(Γf .AZ).take 1:=GC (by rw[hl1];rfl)
 have names0:∀k,(cellsFrom k scope.names []).map (·.1)=(cellsFrom 0 scope.names []).map (·.1):=fun k=>cellsFrom_names scope.names k 0 [] [] rfl
 have cell':∀k y,scope.names.lookup y=some .cell->((cellsFrom k scope.names []).lookup y).isSome=true:=fun k y hy=>CQ (names0 k).symm (sc.cell y hy)
 refine codeAny_call_function (by show 1+claimMargin < recursionLimit;decide) (KI _ _ hl) rfl sc.co sc.gen rfl (codeRec_of KI hcd) (hb' _ _ _ _ ?_)
 refine wpAny_newFunctionEnv_cells sc.kind (fun y hy=> ?_) fun Ai he s' x=> ?_
 .rcases sc.par y.1 (by rw[<-bn];exact List.mem_map_of_mem hy)with e | e
  .exact .inl e
  .exact .inr ⟨e,cell' _ _ e⟩
 subst he
 refine⟨hlim.keeps x.toInCall.keep,codeAny_func ?_⟩
 obtain⟨h₁,tk,rfl,_⟩:=x.done
 have hk₁:=x.toInCall.keep
 obtain⟨cells,NC,Y⟩:=Cl.news (h₀:=s.heap) (Nat.le_refl _) fun n c hm=>⟨x.cell n c (lookup_of_mem_nodup (names0 _▸sc.nd) hm),x.above n c hm⟩
 have Dn:h₁.Ns s.heap.objs.size (bindL (envOfC qual scope s.heap.objs.size fL (.ref c)).kindOf (((Γf .AZ).take 1).zip [Value.ref U.sa]) fun J=>none):=x.toInCall.ns
 have Y:CellsAre (bindC (envOfC qual scope s.heap.objs.size fL (.ref c)).kindOf (((Γf .AZ).take 1).zip [Value.ref U.sa]) fun J=>none) (cellsFrom (s.heap.objs.size+1) scope.names []) cells:=Y
 show wpAny (model U.prog U.w) (callerA.deeper (envOfC qual scope s.heap.objs.size fL (.ref c))) (execs body (envOfC qual scope s.heap.objs.size fL (.ref c))) _ _ _
 clear x
 generalize B8:envOfC qual scope s.heap.objs.size fL (.ref c)=Ai at *
 have addrs:=FV Y
 have ca:=Ej scope.names (s.heap.objs.size+1) [] List.nodup_nil (by intro p hp;cases hp)
 have cnd:(cells.map (·.1)).Nodup:=by rw[addrs];exact ca.1
 have cabove:∀q ∈ cells,s.heap.objs.size < q.1:=fun q hq=>by
  have:q.1 ∈ cells.map (·.1):=List.mem_map_of_mem hq
  rw[addrs]at this
  obtain⟨r,hr,e⟩:=List.mem_map.mp this
  rcases ca.2 r hr with hr | hr
  .cases hr
  .rw [<-e];exact hr
 let X':Fx:={ G:=G,L:=s.heap.objs.size,m:=bindL Ai.kindOf (((Γf .AZ).take 1).zip [Value.ref U.sa]) fun J=>none,own:=cells,ex:=[],base:=G,l:=[Ai]}
 have hcells:Ai.cells=cellsFrom (s.heap.objs.size+1) scope.names []:=by rw[<-B8];rfl
 have hnames:Ai.scope.names=scope.names:=by rw[<-B8];rfl
 have hdp:(callerA.deeper Ai).depth=302:=rfl
 have hun:(callerA.deeper Ai).units=7:=rfl
 have rl:recursionLimit=1000:=rfl
 have cx':Cx U (callerA.deeper Ai) X' Ai d:=by
  refine⟨⟨callerA,[],below_caller G,rfl⟩,rfl,by rw[<-B8];rfl,by rw[<-B8];exact sc.kind,rfl,?_,?_,gf⟩
  .rw [hdp];exact fH ‹_› (by rfl)
  .rw [hun];exact fH ‹_› (by rfl)
 have rm:DI (callerA.deeper Ai) d 7:=by
  constructor
  .rw [hdp];exact dJ ‹_› (by rfl)
  .rw [hun];exact dJ ‹_› (by rfl)
 have ek':AJ X' Ai Ai scope.names:=by
  refine⟨hnames,by rw[<-B8];exact sc.kind,by rw[<-B8];rfl,by rw[<-B8];rfl,by rw[<-B8];rfl,fun y hy=> ?_⟩
  rw[hcells]
  unfold PySem.Env.kindOf at hy
  rw[hnames]at hy
  rcases hy with hy | hy
  .exact cell' _ y hy
  .exact absurd rfl (sc.free y _ hy)
 have sx':SX U (callerA.deeper Ai) X' Ai Ai d scope.names:=by
  refine⟨cx',ek',by rw[<-B8];rfl,fun y c hy=> ?_,fun y z c hy hz=> ?_,fun J J=>rfl⟩
  .rw [hcells]at hy
   obtain⟨o,h1,h2⟩:=DP Y hy
   exact⟨o,_,h1,h2⟩
  .rw [hcells]at hy hz
   exact D6 ca.1 hy hz
 have hP1:U.tabA < s.heap.objs.size:=Heap.lt_size hP
 have x':AL U X' [(U.tabA,0)] [.tab] h₁:=by
  refine⟨⟨Dn,fun b o e=>hk₁ b o (hG b o e),hsz⟩,[[(U.tabA,tabObj #[])]],⟨⟨#[],[],rfl,rfl,trivial,fun pos cv e=>by cases e⟩,trivial⟩,fun q hq=> ?_,?_,?_⟩
  .simp only [Fx.px,X',List.append_nil,List.flatten_cons,List.flatten_nil,List.mem_append,List.mem_singleton]at hq
   rcases hq with hq | rfl
   .have y:=NC q hq
    refine⟨y.1,y.2.1,?_⟩
    cases e:G.get? q.1 with
    | none=>rfl
    | some o=>have:=hG _ _ e;rw[y.2.2]at this;cases this
   .exact ⟨hk₁ _ _ hP,Nat.ne_of_lt hP1,hGP⟩
  .show BC ((cells++[])++[(U.tabA,tabObj #[])])
   rw[List.append_nil]
   refine BP List.perm_append_comm (BP List.perm_append_comm (Gy (n:=cells) (l:=[(U.tabA,tabObj #[])]) ?_ cnd ?_))
   .exact List.nodup_cons.mpr ⟨by simp,List.nodup_nil⟩
   .intro p hp q hq
    rcases List.mem_singleton.mp hq with rfl
    exact Nat.lt_trans hP1 (cabove p hp)
  .intro q hq
   simp only [List.flatten_cons,List.flatten_nil,List.append_nil,List.mem_singleton]at hq
   subst hq;exact h3
 have ld:∀x v,(((Γf .AZ).take 1).zip [Value.ref U.sa]).lookup x=some v->GB X' Ai x v:=fun y v hy=>by
  have hm:y ∈ (((Γf .AZ).take 1).zip [Value.ref U.sa]).map (·.1):=List.mem_map.mpr ⟨(y,v),DV.lookup_memV hy,rfl⟩
  have hnd:((((Γf .AZ).take 1).zip [Value.ref U.sa]).map (·.1)).Nodup:=by rw[bn];exact sc.pnd
  have hk:Ai.kindOf y=scope.names.lookup y:=by unfold PySem.Env.kindOf;rw[hnames]
  rw[bn]at hm
  rcases sc.par y hm with e | e
  .refine .inl ⟨hk.trans e,by rw[<-B8];rfl,?_⟩
   show bindL Ai.kindOf _ (fun J=>none) y=some v
   rw[DV hnd (hk.trans e),hy]
  .have hs:=cell' (s.heap.objs.size+1) y e
   obtain⟨c,hc⟩:=Option.isSome_iff_exists.mp hs
   obtain⟨o,h1,h2⟩:=DP Y hc
   refine .inr (.inl ⟨.inl (hk.trans e),c,o,by rw[hcells];exact hc,B1 _ h1,?_⟩)
   rw[h2,Hl hnd (by rw[hk,e];decide),hy]
 obtain⟨Ce,De,fI,cde,rfl,ue⟩:=tx.ue
 have al:Al U (.ref Ce) fa d { Aa:=Aa,bg:=bg,initOf:=initOf,call:=D8 prog Aa bg initOf d}:=
  ⟨tx.uf,tx.ug,tx.ub,tx.uc,tx.um,tx.bg,tx.Aa,rfl,tx.gmx,fun pin=>T2 d _ (tx.pinned pin),⟨Ce,De,fI,cde,rfl,ue⟩⟩
 have hq':Ai.qual++"<lambda>"=CW:=by rw[<-B8];exact hq
 obtain⟨H',hm,h0⟩:=hm
 rw[D8]at hm
 rw[if_pos (by decide)]at hm
 have rm3:DI (callerA.deeper Ai) d 3:=⟨by have:=rm.1;exact dA ‹_› (by rfl),by have:=rm.2;exact dA ‹_› (by rfl)⟩
 refine Cw (prog .AZ).body true scope.names (Γf .AZ) body Ls ⟨U,.ref Ce,fa,d,{ Aa:=Aa,bg:=bg,initOf:=initOf,call:=D8 prog Aa bg initOf d},callerA.deeper Ai,Ai⟩ ⟨nd,al,rm3,fun J X sx=> ?_⟩ X' [(U.tabA,0)] [.tab] _ _ _ _ sx' x' (Po (vs:=[.ext]) nd (p:=1) (q:=(prog .AZ).vars) (by rw[Ba];exact hpv) (xs:=[Value.ref U.sa]) ⟨rfl,trivial⟩ rfl Ba.symm ld) ?_
 .refine P7 uk ue sx.cx sx.ek rm3 (sx.og Ai ?_) (by rw[<-B8];rfl) (codeHd_of_K sx.cx.gf.K lk.hdc) hq'
  have hA:=sx.cx.hA
  have:(callerA.deeper Ai).frames=some [Ai]:=rfl
  rw[this]at hA
  exact(Option.some.inj hA).symm
 .unfold bnd at hm
  have e0:([V.ext]++List.drop ([V.ext].length+(prog .AZ).dflt.length - (prog .AZ).params) (prog .AZ).dflt).map some++List.replicate ((prog .AZ).vars - (prog .AZ).params) Option.none=[V.ext].map some++List.replicate ((prog .AZ).vars - 1) Option.none:=by
   rw[Tb,Ir];rfl
  rw[e0]at hm
  cases e:Ak { Aa:=Aa,bg:=bg,initOf:=initOf,call:=D8 prog Aa bg initOf d} (prog .AZ).body ([V.ext].map some++List.replicate ((prog .AZ).vars - 1) Option.none) [.tab]with
  | bad=>rw[e]at hm;cases hm
  | exc m H1=>rw[e]at hm;cases hm
  | ok r H1=>
   rw[e]at hm
   obtain⟨vs2,fl⟩:=r
   intro X'' ρ' h' CG sm sxx l F eo2
   have keep:∀b o,G.get? b=some o->h'.get? b=some o:=fun b o q=>F.fr.keep b o (by rw[sm.G];exact q)
   have gr:H1[0]? =some .tab->GrownAt U.tabA h':=fun h=>by
    obtain⟨ps,codes,g1,_⟩:=FS.tab F h rfl
    exact⟨ps,g1⟩
   cases fl with
   | none=>cases hm
   | some v=>
    cases hm
    intro v' r
    cases r
    exact hR h' CG keep (gr h0)
end
theorem E3:∀{ns:List Str} {xs:List Value} {n:Str},n ∈ ns->ns.length=xs.length->((ns.zip xs).lookup n).isSome=true
 | [],_,_,h,_=>by cases h
 | _::_,[],_,_,e=>by cases e
 | y::ns,x::xs,n,h,e=>by
  rw[List.zip_cons_cons,List.lookup_cons]
  cases q:n==y with
  | true=>rfl
  | false=>
   rcases List.mem_cons.mp h with rfl | h
   .simp at q
   .exact E3 h (by simpa using e)
theorem JI:∀{ns:List Str} {xs:List Value},ns.Nodup->ns.length=xs.length->(ns.filterMap fun n=>((ns.zip xs).lookup n).map (n,·))=ns.zip xs:=by
 intro ns xs nd e
 have key:∀(l:List Str) (l':List Value) (P:List (Str×Value)),l.Nodup->l.length=l'.length->(∀n ∈ l,P.lookup n=none)->
   (l.filterMap fun n=>((P++l.zip l').lookup n).map (n,·))=l.zip l':=by
  intro l
  induction l with
  | nil=>intro l' P _ _ _;rfl
  | cons y r ih=>
   intro l' P nd e hP
   cases l' with
   | nil=>cases e
   | cons x xs=>
    rw[List.nodup_cons]at nd
    have h1:(P++(y::r).zip (x::xs)).lookup y=some x:=by
     rw[List.lookup_append,hP y (.head _),List.zip_cons_cons,List.lookup_cons,beq_self_eq_true];rfl
    rw[List.filterMap_cons,h1]
    have h2:P++(y::r).zip (x::xs)=(P++[(y,x)])++r.zip xs:=by simp
    have:=ih xs (P++[(y,x)]) nd.2 (by simpa using e) fun n hn=>by
     rw[List.lookup_append,hP n (.tail _ hn)]
     have:(n==y)=false:=beq_eq_false_iff_ne.mpr fun q=>nd.1 (q▸hn)
     simp[List.lookup_cons,this]
    rw[h2]
    simp only [Option.map_some,List.zip_cons_cons]
    rw[this]
 have:=key ns xs [] nd e (fun J J=>rfl)
 simpa using this
noncomputable def kB(fd:FuncData):{ k:List Value->Option (Array Value)->Sem (List (Str×Value)) // ∀pos,bindArgs fd ⟨pos,[]⟩=seqItems? fd.defaults >>= k pos}:=⟨_,fun J=>rfl⟩
theorem WJ{α:Type}{c:Prop}[Decidable c]{a b r:α}(h:¬c)(e:b=r):ite c a b=r:=(if_neg h).trans e
theorem JP{p:Arguments}(hp:p.posonlyargs=[])(hv:p.vararg=none)(hk:p.kwonlyargs=[])(hw:p.kwarg=none):p=⟨[],p.args,none,[],p.kw_defaults,none,p.defaults⟩:=by
 cases p
 cases hp
 cases hv
 cases hk
 cases hw
 rfl
theorem VS{x1 x2:Str}{as:List Arg}{kd:List (Option Expr)}{df:List Expr}{x3:FuncBody}{x4:Scope}{x5:Addr}{x6:List (Str×Addr)}{x8 x9 x10:Value}{x11:Option Addr}{x12 x13:Value}{x14:Addr}{pos:List Value}(nd:(as.map (·.arg)).Nodup)(hl:pos.length=as.length):
  bindArgs ⟨x1,x2,⟨[],as,none,[],kd,none,df⟩,x3,x4,x5,x6,.none,x8,x9,x10,x11,x12,x13,x14⟩ ⟨pos,[]⟩=pure ((as.map (·.arg)).zip pos):=by
 have bS:(as.map (·.arg)).length=pos.length:=by rw[List.length_map,hl]
 have hm:∀k,((as.map (·.arg)).take k).filter (fun n=>(((as.map (·.arg)).zip pos).lookup n).isNone)=[]:=fun k=>by
  rw[List.filter_eq_nil_iff]
  intro n hn
  have:=E3 (List.mem_of_mem_take hn) bS
  rw[Option.isNone_iff_eq_none]
  intro q;rw[q]at this;cases this
 refine((kB _).2 pos).trans (WJ ?_ (WJ ?_ ?_))
 .show ¬(decide (pos.length > (as.map (·.arg)).length)&&true)=true
  rw[bS,Bool.and_true,decide_eq_true_eq]
  exact Nat.lt_irrefl _
 .show ¬(!(((as.map (·.arg)).take _).filter fun n=>(((as.map (·.arg)).zip pos).lookup n).isNone).isEmpty)=true
  rw[hm]
  exact Bool.false_ne_true
 .simp only [List.map_nil,List.nil_append,Option.getD_none,List.length_nil,List.drop_nil,List.zip_nil_right,List.forIn_nil,pure_bind,List.append_nil]
  exact congrArg pure (JI nd bS)
theorem M9{fd:FuncData}{pos:List Value}(hp:fd.params.posonlyargs=[])(hv:fd.params.vararg=none)(hk:fd.params.kwonlyargs=[])(hw:fd.params.kwarg=none)(hd:fd.defaults=.none)(nd:(fd.params.args.map (·.arg)).Nodup)(hl:pos.length=fd.params.args.length):
  bindArgs fd ⟨pos,[]⟩=pure ((fd.params.args.map (·.arg)).zip pos):=by
 have h:=VS (pos:=pos) (as:=fd.params.args) (x1:=fd.name) (x2:=fd.qualname) (kd:=fd.params.kw_defaults) (df:=fd.params.defaults) (x3:=fd.body) (x4:=fd.scope) (x5:=fd.globals) (x6:=fd.closure) (x8:=fd.kwdefaults) (x9:=fd.doc) (x10:=fd.pyModule) (x11:=fd.annotations) (x12:=fd.code) (x13:=fd.closureTuple) (x14:=fd.builtins) nd hl
 rw[<-hd]at h
 exact(congrArg (fun p=>bindArgs { fd with params:=p} ⟨pos,[]⟩) (JP hp hv hk hw)).trans h
noncomputable def YQ(scope:Scope)(binds:List Str):Bool:=
 (!scope.isCoroutine&&(!scope.isGenerator&&scope.kind== .function))&&((scope.names.all fun p=>p.2 != .free)&&(scope.names.all fun p=>p.2 != .cell||((cellsFrom 0 scope.names []).lookup p.1).isSome))&&
 ((binds.all fun y=>scope.names.lookup y==some .local||scope.names.lookup y==some .cell)&&(decide ((cellsFrom 0 scope.names []).map (·.1)).Nodup&&decide binds.Nodup))
theorem Hi{scope:Scope}{binds:List Str}(h:YQ scope binds=true):Q9 scope binds:=
 have h1:=Ag (Ag h)
 have h2:=Am (Ag h)
 have h3:=Am h
 ⟨nt (Ag h1),nt (Ag (Am h1)),eq_of_beq (Am (Am h1)),fun J J e=>bne_iff_ne.mp (List.all_eq_true.mp (Ag h2) _ (BS e)),
  fun J e=>((Bool.or_eq_true _ _).mp (List.all_eq_true.mp (Am h2) _ (BS e))).elim (fun q=>absurd rfl (bne_iff_ne.mp q)) id,
  fun y hy=>((Bool.or_eq_true _ _).mp (List.all_eq_true.mp (Ag h3) y hy)).imp eq_of_beq eq_of_beq,of_decide_eq_true (Ag (Am h3)),of_decide_eq_true (Am (Am h3))⟩
noncomputable def QV(d:Data)(k:FuncData->Bool):Bool:= @Data.casesOn (fun J=>Bool) d false (fun J=>false) (fun J J=>false) (fun J J=>false) (fun J J J=>false) (fun J J=>false) (fun J=>false) k (fun J=>false) (fun J=>false) false
theorem S3{P:Data->Prop}{d:Data}{k:FuncData->Bool}(h:QV d k=true)(f:∀x,k x=true->P (.func x)):P d:= @Data.casesOn (fun d=>QV d k=true->P d) d nf (fun J=>nf) (fun J J=>nf) (fun J J=>nf) (fun J J J=>nf) (fun J J=>nf) (fun J=>nf) f (fun J=>nf) (fun J=>nf) nf h
noncomputable def XE(d:Data)(k:ClassData->Bool):Bool:= @Data.casesOn (fun J=>Bool) d false (fun J=>false) (fun J J=>false) (fun J J=>false) (fun J J J=>false) (fun J J=>false) (fun J=>false) (fun J=>false) k (fun J=>false) false
theorem VL{P:Data->Prop}{d:Data}{k:ClassData->Bool}(h:XE d k=true)(f:∀x,k x=true->P (.cls x)):P d:= @Data.casesOn (fun d=>XE d k=true->P d) d nf (fun J=>nf) (fun J J=>nf) (fun J J=>nf) (fun J J J=>nf) (fun J J=>nf) (fun J=>nf) (fun J=>nf) f (fun J=>nf) nf h
noncomputable def Xr(d:Data)(k:Array Value->Nat->Bool):Bool:= @Data.casesOn (fun J=>Bool) d false (fun J=>false) k (fun J J=>false) (fun J J J=>false) (fun J J=>false) (fun J=>false) (fun J=>false) (fun J=>false) (fun J=>false) false
theorem UD{P:Data->Prop}{d:Data}{k:Array Value->Nat->Bool}(h:Xr d k=true)(f:∀x n,k x n=true->P (.seq x n)):P d:= @Data.casesOn (fun d=>Xr d k=true->P d) d nf (fun J=>nf) f (fun J J=>nf) (fun J J J=>nf) (fun J J=>nf) (fun J=>nf) (fun J=>nf) (fun J=>nf) (fun J=>nf) nf h
noncomputable def YN(K:Frag)(x:FuncData):Bool:=
 (x.globals==mainGlobals&&x.builtins==builtinsNs)&&(x.closure.isEmpty&&codeIn K x.code x.qualname)&&
 ((x.params.posonlyargs.isEmpty&&x.params.vararg.isNone)&&(x.params.kwonlyargs.isEmpty&&x.params.kwarg.isNone))
noncomputable def IX(x:FuncData)(l:List Str):Bool:=x.defaults==Value.none&&x.params.args.map (·.arg)==l
noncomputable def Rg(b:FuncBody)(k:List Stmt->Bool):Bool:= @FuncBody.casesOn (fun J=>Bool) b k fun J=>false
noncomputable abbrev fx(x:FuncData)(b:List Stmt):FuncData:=fnX x.name x.qualname x.params b x.scope [] x.defaults x.kwdefaults x.doc x.pyModule x.annotations x.code x.closureTuple
structure Ye(K:Frag)(x:FuncData):Prop where
 cd:codeIn K x.code x.qualname=true
 po:x.params.posonlyargs=[]
 va:x.params.vararg=none
 ko:x.params.kwonlyargs=[]
 kw:x.params.kwarg=none
theorem Zz{K:Frag}{x:FuncData}{b:List Stmt}(h:YN K x=true)(hb:x.body=.stmts b):x=fx x b:=by
 have h1:=eq_of_beq (Ag (Ag (Ag h)))
 have h2:=eq_of_beq (Am (Ag (Ag h)))
 have h3:=List.isEmpty_iff.mp (Ag (Am (Ag h)))
 clear h
 cases x
 cases hb
 cases h1
 cases h2
 cases h3
 rfl
theorem aI{K:Frag}{x:FuncData}(h:YN K x=true):Ye K x:=
 ⟨Am (Am (Ag h)),List.isEmpty_iff.mp (Ag (Ag (Am h))),Option.isNone_iff_eq_none.mp (Am (Ag (Am h))),List.isEmpty_iff.mp (Ag (Am (Am h))),Option.isNone_iff_eq_none.mp (Am (Am (Am h)))⟩
noncomputable def PV(K:Frag)(a:Addr)(k:FuncData->List Stmt->Bool):Bool:=xo (K.lookup a) fun o=>QV o.data fun x=>Rg x.body fun b=>YN K x&&k x b
theorem GE{K:Frag}{a:Addr}{k:FuncData->List Stmt->Bool}{P:Prop}(h:PV K a k=true)(f:∀oc od osl x b,K.lookup a=some ⟨oc,od,.func (fx x b),osl⟩->Ye K x->k x b=true->P):P:=
 FT (P:=fun o=>K.lookup a=o->P) h (fun o h=>by
  obtain⟨oc,od,d,osl⟩:=o
  refine S3 (P:=fun d=>K.lookup a=some ⟨oc,od,d,osl⟩->P) h fun x h hl=> ?_
  cases hb:x.body with
  | stmts b=>
   have h:(YN K x&&k x b)=true:=by
    have h:Rg x.body (fun b=>YN K x&&k x b)=true:=h
    rw[hb]at h;exact h
   exact f oc od osl x b (by rw[<-Zz (Ag h) hb];exact hl) (aI (Ag h)) (Am h)
  | expr e=>
   have h:Rg x.body (fun b=>YN K x&&k x b)=true:=h
   rw[hb]at h;exact nf h) rfl
theorem Ek{K:Frag}{x:FuncData}{b:List Stmt}{l:List Str}(fd:Ye K x)(h:IX x l=true)(nd:l.Nodup){s:Shared}{args:List Value}(hl:args.length=l.length):BindsTo s (fx x b) ⟨args,[]⟩ (l.zip args):=by
 have h6:x.params.args.map (·.arg)=l:=eq_of_beq (Am h)
 subst h6
 exact BindsTo.of_eq (M9 (fd:=fx x b) (pos:=args) fd.po fd.va fd.ko fd.kw (eq_of_beq (Ag h)) nd (hl.trans (List.length_map _)))
theorem JY(f:Fn):((Γf f).take (prog f).params).length=(prog f).params:=by
 have sh:=NE f
 rw[List.length_take,eq_of_beq (Am (Ag (Ag (Ag sh))))]
 exact Nat.min_eq_left (of_decide_eq_true (Am (Ag (Ag sh))))
noncomputable def bW(K:Frag)(k:Bool)(f:Fn)(a:Addr):Bool:=PV K a fun x b=>IX x ((Γf f).take (prog f).params)&&(prog f).dflt.isEmpty&&YQ x.scope ((Γf f).take (prog f).params)&&Gr k x.scope.names (Γf f) (prog f).body b
theorem Yh{K:Frag}{fa:Fn->Addr}{f:Fn}(h:bW K false f (fa f)=true):Li K fa f:=
 GE h fun oc od osl x b hl fd h=> .mk _ _ _ _ _ _ _ _ _ _ _ _ _ _ _ hl fd.cd (Hi (Am (Ag h))) (Am h) fun s args J hle hge=>by
  rw[List.isEmpty_iff.mp (Am (Ag (Ag h))),List.length_nil,Nat.add_zero]at hge
  rw[Nat.sub_eq_zero_of_le hge,List.replicate_zero,List.append_nil]
  exact Ek fd (Ag (Ag (Ag h))) (Hi (Am (Ag h))).pnd ((Nat.le_antisymm hle hge).trans (JY f).symm)
theorem Xo{x1 x2:Str}{a1 a2 a3 a4:Str}{b1 b2 b3 b4:Option Expr}{p1 p2 p3 p4:Pos}{kd:List (Option Expr)}{df:List Expr}{x3:FuncBody}{x4:Scope}{x5:Addr}{x6:List (Str×Addr)}{x7 x8 x9 x10:Value}{x11:Option Addr}{x12 x13:Value}{x14:Addr}{a b c v:Value}(hn:[a1,a2,a3,a4]=(Γf .An).take 4):
  (kB ⟨x1,x2,⟨[],[⟨a1,b1,p1⟩,⟨a2,b2,p2⟩,⟨a3,b3,p3⟩,⟨a4,b4,p4⟩],none,[],kd,none,df⟩,x3,x4,x5,x6,x7,x8,x9,x10,x11,x12,x13,x14⟩).1 [a,b,c] (some #[v])=pure (((Γf .An).take 4).zip [a,b,c,v])/\
  ∀d,(kB ⟨x1,x2,⟨[],[⟨a1,b1,p1⟩,⟨a2,b2,p2⟩,⟨a3,b3,p3⟩,⟨a4,b4,p4⟩],none,[],kd,none,df⟩,x3,x4,x5,x6,x7,x8,x9,x10,x11,x12,x13,x14⟩).1 [a,b,c,d] (some #[v])=pure (((Γf .An).take 4).zip [a,b,c,d]):=by
 cases hn
 exact⟨rfl,fun d=>rfl⟩
theorem VJ{α β:Type}{f:α->β}{l:List α}{w:β}{r:List β}(h:l.map f=w::r):∃p q,l=p::q/\q.map f=r:=by
 cases l with
 | nil=>cases h
 | cons p q=>exact⟨p,q,rfl,(List.cons.inj h).2⟩
theorem dU{α β:Type}{f:α->β}{l:List α}{w x y z:β}(h:l.map f=[w,x,y,z]):∃p q r s,l=[p,q,r,s]:=by
 obtain⟨p,l1,e1,h1⟩:=VJ h
 obtain⟨q,l2,e2,h2⟩:=VJ h1
 obtain⟨r,l3,e3,h3⟩:=VJ h2
 obtain⟨s,l4,e4,h4⟩:=VJ h3
 exact⟨p,q,r,s,by rw[e1,e2,e3,e4,List.map_eq_nil_iff.mp h4]⟩
theorem RD{fd:FuncData}(hp:fd.params.posonlyargs=[])(hv:fd.params.vararg=none)(hk:fd.params.kwonlyargs=[])(hw:fd.params.kwarg=none)(hn:fd.params.args.map (·.arg)=(Γf .An).take 4)(a b c v:Value):
  (kB fd).1 [a,b,c] (some #[v])=pure (((Γf .An).take 4).zip [a,b,c,v])/\∀d,(kB fd).1 [a,b,c,d] (some #[v])=pure (((Γf .An).take 4).zip [a,b,c,d]):=by
 obtain⟨a1,a2,a3,a4,e4⟩:=dU hn
 have e:fd.params=⟨[],[a1,a2,a3,a4],none,[],fd.params.kw_defaults,none,fd.params.defaults⟩:=by rw[<-e4];exact JP hp hv hk hw
 rw[e4]at hn
 clear hp hv hk hw e4
 obtain⟨x1,x2,ps,x3,x4,x5,x6,x7,x8,x9,x10,x11,x12,x13,x14⟩:=fd
 have e:ps=_:=e
 rw[e]
 obtain⟨n1,b1,p1⟩:=a1
 obtain⟨n2,b2,p2⟩:=a2
 obtain⟨n3,b3,p3⟩:=a3
 obtain⟨n4,b4,p4⟩:=a4
 exact @Xo x1 x2 n1 n2 n3 n4 b1 b2 b3 b4 p1 p2 p3 p4 ps.kw_defaults ps.defaults x3 x4 x5 x6 x7 x8 x9 x10 x11 x12 x13 x14 a b c v hn
noncomputable def cU(K:Frag)(a T:Addr):Bool:=PV K a fun x b=>YQ x.scope ((Γf .An).take 4)&&Gr false x.scope.names (Γf .An) (prog .An).body b&&(x.defaults==Value.ref T&&x.params.args.map (·.arg)==(Γf .An).take 4)&&xo (K.lookup T) fun o=>Xr o.data fun its J=>its==#[Value.none]
theorem XX{K:Frag}{fa:Fn->Addr}{T:Addr}(h:cU K (fa .An) T=true):Li K fa .An:=
 GE h fun oc od osl x bb hl fd h=> .mk _ _ _ _ _ _ _ _ _ _ _ _ _ _ _ hl fd.cd (Hi (Ag (Ag (Ag h)))) (Am (Ag (Ag h))) fun s args KI hle hge=>by
  have hT:∃c1 d1 n1 o1,K.lookup T=some ⟨c1,d1,.seq #[Value.none] n1,o1⟩:=
   FT (P:=fun o=>K.lookup T=o->∃c1 d1 n1 o1,K.lookup T=some ⟨c1,d1,.seq #[Value.none] n1,o1⟩) (Am h) (fun o h e=>by
    obtain⟨c1,d1,d,o1⟩:=o
    exact UD (P:=fun d=>K.lookup T=some ⟨c1,d1,d,o1⟩->∃c1 d1 n1 o1,K.lookup T=some ⟨c1,d1,.seq #[Value.none] n1,o1⟩) h (fun its n h e=>⟨c1,d1,n,o1,bq (P:=fun its=>K.lookup T=some ⟨c1,d1,.seq its n,o1⟩->K.lookup T=some ⟨c1,d1,.seq #[Value.none] n,o1⟩) h id e⟩) e) rfl
  obtain⟨c1,d1,n1,o1,hT⟩:=hT
  have bo:=fun a b c=>RD (fd:=fx x bb) fd.po fd.va fd.ko fd.kw (eq_of_beq (Am (Am (Ag h)))) a b c .none
  have h4:=eq_of_beq (Ag (Am (Ag h)))
  match args,hle,hge with
  | [a,b,c],_,_=>exact BindsTo.of_defaults h4 (KI _ _ hT) rfl ((kB _).2 _) (bo a b c).1
  | [a,b,c,d],_,_=>exact BindsTo.of_defaults h4 (KI _ _ hT) rfl ((kB _).2 _) ((bo a b c).2 d)
  | [],_,q=>exact absurd (show 4<=1 from q) (by decide)
  | [_],_,q=>exact absurd (show 4<=2 from q) (by decide)
  | [_,_],_,q=>exact absurd (show 4<=3 from q) (by decide)
  | _::_::_::_::_::r,q,_=>exact absurd (Nat.le_trans (Nat.le_add_left 5 r.length) q) (by decide)
noncomputable def zH(h:ExceptHandler)(k:Option Expr->Option Str->List Stmt->Bool):Bool:= @ExceptHandler.casesOn (fun J=>Bool) h fun t n b J=>k t n b
noncomputable def Xc(b:List Stmt)(k:Expr->Bool):Bool:=x1 b fun s=>Gu s fun o J=>xo o k
theorem Ph{Q:List Stmt->Prop}{b:List Stmt}{k:Expr->Bool}(h:Xc b k=true)(f:∀e p,k e=true->Q [.Return (some e) p]):Q b:=
 Db h fun s h=>Gi (P:=fun s=>Q [s]) h fun o p h=>FT (P:=fun o=>Q [.Return o p]) h fun e h=>f e p h
noncomputable def RC(e:Expr)(nm:Str):Bool:=Dp e fun x J=>x==nm
theorem HY{P:Expr->Prop}{e:Expr}{nm:Str}(h:RC e nm=true)(f:∀p,P (.Name nm p)):P e:=BF h fun x p h=>bq (P:=fun x=>P (.Name x p)) h (f p)
noncomputable def Yx(e:Expr)(o nm:Str):Bool:=Ds e fun x y J=>y==nm&&RC x o
theorem O0{P:Expr->Prop}{e:Expr}{o nm:Str}(h:Yx e o nm=true)(f:∀p q,P (.Attribute (.Name o p) nm q)):P e:=DC h fun x y q h=>bq (P:=fun y=>P (.Attribute x y q)) (Ag h) (HY (P:=fun x=>P (.Attribute x nm q)) (Am h) fun p=>f p q)
noncomputable def aS(h:ExceptHandler):Bool:=zH h fun t n b=>xo t (fun e=>RC e "Refusal")&&n==some ("error":Str)&&Xc b fun e=>Yx e "error" "message"
noncomputable def Rb(b:List Stmt):Bool:=x1 b fun s=>Yy s fun b hs el fi J=>el.isEmpty&&fi.isEmpty&&(Xc b fun e=>LW e fun f as ks J=>as.isEmpty&&ks.isEmpty&&RC f "ask")&&x1 hs aS
inductive CJ:List Stmt->Prop
 | mk (p1 p2 p3 p4 p5 p6 p7 p8 p9:Pos):CJ (EE p1 p2 p3 p4 p5 p6 p7 p8 p9)
theorem Tx{b:List Stmt}(h:Rb b=true):CJ b:=
 Db (P:=CJ) h fun s h=>Vv (P:=fun s=>CJ [s]) h fun b hs el fi p9 h=>e0 (P:=fun el=>CJ [.Try b hs el fi p9]) (Ag (Ag (Ag h)))<|e0 (P:=fun fi=>CJ [.Try b hs [] fi p9]) (Am (Ag (Ag h)))<|
 Ph (Q:=fun b=>CJ [.Try b hs [] [] p9]) (Am (Ag h)) fun e p3 h1=>Js (P:=fun e=>CJ [.Try [.Return (some e) p3] hs [] [] p9]) h1 fun f as ks p2 h1=>e0 (P:=fun as=>CJ [.Try [.Return (some (.Call f as ks p2)) p3] hs [] [] p9]) (Ag (Ag h1))<|e0 (P:=fun ks=>CJ [.Try [.Return (some (.Call f [] ks p2)) p3] hs [] [] p9]) (Am (Ag h1))<|
 HY (P:=fun f=>CJ [.Try [.Return (some (.Call f [] [] p2)) p3] hs [] [] p9]) (Am h1) fun p1=>Db (P:=fun hs=>CJ [.Try [.Return (some (.Call (.Name "ask" p1) [] [] p2)) p3] hs [] [] p9]) (Am h) fun hd h=>by
  obtain⟨t,n,b,p8⟩:=hd
  refine FT (P:=fun t=>CJ [.Try [.Return (some (.Call (.Name "ask" p1) [] [] p2)) p3] [.ExceptHandler t n b p8] [] [] p9]) (Ag (Ag h)) fun e h1=>HY (P:=fun e=>CJ [.Try [.Return (some (.Call (.Name "ask" p1) [] [] p2)) p3] [.ExceptHandler (some e) n b p8] [] [] p9]) h1 fun p4=> ?_
  refine bq (P:=fun n=>CJ [.Try [.Return (some (.Call (.Name "ask" p1) [] [] p2)) p3] [.ExceptHandler (some (.Name "Refusal" p4)) n b p8] [] [] p9]) (Am (Ag h)) ?_
  exact Ph (Q:=fun b=>CJ [.Try [.Return (some (.Call (.Name "ask" p1) [] [] p2)) p3] [.ExceptHandler (some (.Name "Refusal" p4)) (some "error") b p8] [] [] p9]) (Am h) fun e p7 h=>O0 (P:=fun e=>CJ [.Try [.Return (some (.Call (.Name "ask" p1) [] [] p2)) p3] [.ExceptHandler (some (.Name "Refusal" p4)) (some "error") [.Return (some e) p7] p8] [] [] p9]) h fun p5 p6=> .mk p1 p2 p3 p4 p5 p6 p7 p8 p9
noncomputable def R3(K:Frag)(a:Addr):Bool:=PV K a fun x b=>Rb b&&(IX x ["ask"]&&YQ x.scope ["ask"])&&(x.scope.names.all (fun p=>p.2 != .cell)&&
 (x.scope.names.lookup ("ask":Str)==some .local&&(x.scope.names.lookup ("error":Str)==some .local&&x.scope.names.lookup ("Refusal":Str)==some .globalImplicit)))
theorem S7{U:Un}{fK:Addr}(hn:nsIn U.K mainGlobals "_law_kept"=some (some (.ref fK)))(hk:keepIn U.K (.ref fK)=true)(h:R3 U.K fK=true):UK U fK:=
 ⟨hn,hk,GE h fun oc od osl x b hl fd h=>by
  obtain⟨p1,p2,p3,p4,p5,p6,p7,p8,p9⟩:=Tx (Ag (Ag h))
  have sc:=Hi (Am (Am (Ag h)))
  have h2:=Am h
  exact .mk _ _ _ _ _ _ _ _ _ _ _ _ _ _ p1 p2 p3 p4 p5 p6 p7 p8 p9 hl fd.cd sc.kind sc.co sc.gen (fun p hp=>bne_iff_ne.mp (List.all_eq_true.mp (Ag h2) p hp)) (eq_of_beq (Ag (Am h2))) (eq_of_beq (Ag (Am (Am h2)))) (eq_of_beq (Am (Am (Am h2)))) fun s a J=>Ek fd (Ag (Am (Ag h))) sc.pnd (args:=[a]) rfl⟩
noncomputable def Fk(K:Frag)(a c:Addr):Bool:=PV K a fun x b=>(IX x ((Γf .AZ).take 1)&&YQ x.scope ((Γf .AZ).take 1))&&Gr true x.scope.names (Γf .AZ) (prog .AZ).body b&&(x.code== .ref c&&((x.qualname++".<locals>.")++"<lambda>"==CW))
theorem UA{U:Un}{fL c:Addr}(hc:codeHdIn U.K c U.tabA=true)(h:Fk U.K fL c=true):LK U fL c:=
 ⟨GE h fun oc od osl x b hl fd h=>by
  have sc:=Hi (Am (Ag (Ag h)))
  have h6:=eq_of_beq (Ag (Am h))
  have hb:=fun(s:Shared) (a:Value)=>Ek fd (b:=b) (s:=s) (Ag (Ag (Ag h))) sc.pnd (args:=[a]) (JY .AZ).symm
  have hcd:=fd.cd
  unfold fx at hl hb
  rw[h6]at hl hb hcd
  exact .mk _ _ _ _ _ _ _ _ _ _ _ _ _ _ hl hcd sc (Am (Ag h)) (eq_of_beq (Am (Am h))) fun s a J=>hb s a,hc⟩
noncomputable def Qv(b:List Stmt):Bool:=x1 b fun s=>EN s fun ts e J=>x1 ts (fun t=>Yx t "self" "message")&&RC e "message"
inductive Gg:List Stmt->Prop
 | mk (p1 p2 p3 p4:Pos):Gg [.Assign [.Attribute (.Name "self" p1) "message" p2] (.Name "message" p3) p4]
theorem VK{b:List Stmt}(h:Qv b=true):Gg b:=
 Db (P:=Gg) h fun s h=>D9 (P:=fun s=>Gg [s]) h fun ts e p4 h=>Db (P:=fun ts=>Gg [.Assign ts e p4]) (Ag h) fun t h1=>O0 (P:=fun t=>Gg [.Assign [t] e p4]) h1 fun p1 p2=>HY (P:=fun e=>Gg [.Assign [.Attribute (.Name "self" p1) "message" p2] e p4]) (Am h) fun p3=> .mk p1 p2 p3 p4
noncomputable def SN(K:Frag)(a:Addr):Bool:=PV K a fun x b=>Qv b&&(IX x ["self","message"]&&YQ x.scope ["self","message"])&&(D5 x.scope.names "self"&&D5 x.scope.names "message")
theorem Qo{K:Frag}{fI:Addr}(h:SN K fI=true):N4 K fI:=
 GE h fun oc od osl x b hl fd h=>by
  obtain⟨p1,p2,p3,p4⟩:=VK (Ag (Ag h))
  have sc:=Hi (Am (Am (Ag h)))
  exact .mk _ _ _ _ _ _ _ _ _ _ _ _ _ _ p1 p2 p3 p4 hl fd.cd sc (Ag (Am h)) (Am (Am h)) fun s a b J=>Ek fd (Ag (Am (Ag h))) sc.pnd (args:=[a,b]) rfl
inductive KC:List (Option Value)->Prop
 | mk (k0 k1 k2 k3 k5:Option Value):KC [k0,k1,k2,k3,some (.builtin "Exception.__new__"),k5]
noncomputable def YO(l:List (Option Value)):Bool:= @List.casesOn _ (fun J=>Bool) l false fun k0 l=> @List.casesOn _ (fun J=>Bool) l false fun k1 l=> @List.casesOn _ (fun J=>Bool) l false fun k2 l=> @List.casesOn _ (fun J=>Bool) l false fun k3 l=>x2 l fun k4 k5=>k4==some (.builtin "Exception.__new__")
theorem ZE{l:List (Option Value)}(h:YO l=true):KC l:=
 @List.casesOn _ (fun l=>YO l=true->KC l) l nf (fun k0 l=> @List.casesOn _ (fun l=>YO (k0::l)=true->KC (k0::l)) l nf (fun k1 l=> @List.casesOn _ (fun l=>YO (k0::k1::l)=true->KC (k0::k1::l)) l nf (fun k2 l=> @List.casesOn _ (fun l=>YO (k0::k1::k2::l)=true->KC (k0::k1::k2::l)) l nf (fun k3 l h=>
  J1 (P:=fun l=>KC (k0::k1::k2::k3::l)) h fun k4 k5 h=>bq (P:=fun k4=>KC [k0,k1,k2,k3,k4,k5]) h (.mk k0 k1 k2 k3 k5))))) h
noncomputable def dT(K:Frag)(C D:Addr):Bool:=xo (K.lookup C) fun o=>XE o.data fun cd=>o.cls== .type "type"&&cd.mro== .ref C:: .ref D::B9&&(!cd.hasDel&&cd.hasDict)&&YO o.slots.toList
theorem Oe{K:Frag}{C D:Addr}(h:dT K C D=true):R1 K C D/\∃cd,clsIn K C=some cd/\cd.mro=.ref C:: .ref D::B9/\cd.hasDict=true:=
 FT (P:=fun o=>K.lookup C=o->R1 K C D/\∃cd,clsIn K C=some cd/\cd.mro=.ref C:: .ref D::B9/\cd.hasDict=true) h (fun o h=>by
  obtain⟨cl,dd,d,⟨sl⟩⟩:=o
  refine VL (P:=fun d=>K.lookup C=some ⟨cl,dd,d,⟨sl⟩⟩->R1 K C D/\∃cd,clsIn K C=some cd/\cd.mro=.ref C:: .ref D::B9/\cd.hasDict=true) h fun cd h ho=> ?_
  have e1:cl=.type "type":=eq_of_beq (Ag (Ag (Ag h)))
  have hm:cd.mro=.ref C:: .ref D::B9:=eq_of_beq (Am (Ag (Ag h)))
  have hdel:=nt (Ag (Am (Ag h)))
  have hdd:=Am (Am (Ag h))
  refine⟨?_,cd,by unfold clsIn;rw[ho],hm,hdd⟩
  have hs:KC sl:=ZE (Am h)
  clear h
  obtain⟨k0,k1,k2,k3,k5⟩:=hs
  cases e1
  obtain⟨nm,bs,mro,ns,qn,hd,sn,sub,ab,col,del⟩:=cd
  cases hm
  cases hdel
  exact .mk nm qn ns bs hd sn sub ab col dd k0 k1 k2 k3 k5 ho) rfl
noncomputable def P0(tb:String->Option Builtin)(p:Program)(w:World)(n₀:Nat)(ann:Option Value):Nat->SharedT->Thread->Option SharedT
 | 0,_,_=>none
 | n+1,s,t=>match through t with
  | true=>some s
  | false=>match stepOk n₀ ann t with
   | false=>none
   | true=>match stepT (denote tb) p w s t with
    | some (s',t')=>P0 tb p w n₀ ann n s' t'
    | none=>none
theorem J0{tb:String->Option Builtin}{p:Program}{w:World}{n₀:Nat}{ann:Option Value}:∀(n:Nat) {s r:SharedT} {t:Thread},P0 tb p w n₀ ann n s t=some r->topRun tb p w n₀ ann n s.abs t=some r.abs
 | 0,_,_,_,h=>by cases h
 | n+1,s,r,t,h=>by
  unfold P0 at h
  unfold topRun
  cases ht:through t with
  | true=>rw[ht]at h;cases h;rfl
  | false=>
   rw[ht]at h
   cases hk:stepOk n₀ ann t with
   | false=>rw[hk]at h;cases h
   | true=>
    rw[hk]at h
    cases hs:stepT (denote tb) p w s t with
    | none=>rw[hs]at h;cases h
    | some x=>
     obtain⟨s',t'⟩:=x
     rw[hs]at h
     rw[stepT_spec hs]
     exact J0 n h
noncomputable def bt:List Obj->Nat->BT->BT
 | [],_,t=>t
 | o::r,i,t=>bt r (i+1) (t.ins i o)
noncomputable def aE{α:Type}:List α->Nat
 | []=>0
 | _::r=>(aE r).succ
noncomputable abbrev pw:=PySem.Challenge.pw_nz0526_01
noncomputable def eK(P:Params)(os:OsState):SharedT:=match boot_heap P with
 | ⟨⟨l⟩,life⟩=>⟨bt l 0 .nil,aE l,life,Array.mk [],boot_drawn,boot_toks,os⟩
theorem Vr(P:Params)(os:OsState):(eK P os).abs=⟨boot_heap P,Array.mk [],boot_drawn,boot_toks,os⟩:=by kernel_rfl
noncomputable def Si(w:World)(os:OsState):Option SharedT:=P0 treeTable pw w 11 (some (.ref 6)) 9188 (eK w.params os) (topStub pw)
theorem P1(P:Params):((boot_heap P).isNs mainGlobals&&(Array.mk []:Array GenState).size==0,(boot_heap P).objs.size,(boot_heap P).nsMap mainGlobals "__annotations__")=(true,11,some (.ref 6)):=by kernel_rfl
noncomputable abbrev qv:Program:=view pw [125]
noncomputable def Yg:List String:=["CoveError","Refusal","MOST_LENGTH","Null","Vector","Call","room","character","length","is_vector","is_atomic","own","share","get_attr","drop_attr","put_attr","names_of","dim_of","dimnames_of","NAN","INF","ZERO","gcd","make","from_int","is_na","is_finite","neg","to_whole","nearest_whole","exponent","MOST_EXPONENT","whole_text","special_text","scaled","significant","without_tail","scientific_text","fixed_text","measures","chosen_form","formed","common_texts","number_text","digits_value","digit_run","exponent_value","powered","unsigned_number","parse_number","MOST_INTEGER","kind_order","common_kind","note","as_logical_text","double_to_integer","text_to_double","to_logical","to_integer","to_double","to_text","item_as","is_atomic_kind","list_item_as","refuse_type","as_vector_kind","with_names","as_kind","as_list","whole_subscripts","first_places","partial_place","one_name","one_whole","one_place","strides","lacking_item","is_list_kind","refuse_subset","one_item","vector_element","array_element_place","environment_item","element_step","index_parts","is_long_index","element","dollar","converted_items","raised","extend_vector","first_count","delete_places","list_of_call","call_of_list","element_kind","put_element","assign_step","assign_down","assign_element","assign_dollar","_law_row","_law_next","_law_view","_law_kept","_law_names","_law_made","_law_list","_law_names_of","_law_spot","_law_element","_law_itemised","_law_put","_law_index","_law_shown"]
noncomputable abbrev He:List Str:=Yg.map Str.ofString
noncomputable abbrev bU:=PySem.Challenge.rw_nz0526_01.row
noncomputable abbrev aZ:Shared->Bool:=fun s=>xlAt qv [] s&&recOk (RowW.records bU.toRowW) s
noncomputable abbrev Wr:=PySem.W.Fast.tw10156331382660048174
noncomputable abbrev fX:=PySem.W.Fast.tw6613529449190102663
noncomputable abbrev Z6:=PySem.W.Fast.tw11892475500146522536
noncomputable abbrev Y0:=PySem.W.Fast.tw14364793385576792824
noncomputable def Ur(tb:String->Option Builtin)(p:Program)(w:World)(n₀:Nat)(ann:Option Value):Nat->SharedT->Thread->Option SharedT
 | 0,_,_=>none
 | n+1,s,t=>match through t with
  | true=>some s
  | false=>match fX n₀ ann t with
   | false=>none
   | true=>match Wr (Z6 tb) p w s t with
    | some (s',t')=>Ur tb p w n₀ ann n s' t'
    | none=>none
theorem OW{tb:String->Option Builtin}{p:Program}{w:World}{n₀:Nat}{ann:Option Value}:∀(n:Nat) (s:SharedT) (t:Thread),P0 tb p w n₀ ann n s t=Ur tb p w n₀ ann n s t
 | 0,_,_=>rfl
 | n+1,s,t=>by
  unfold P0 Ur
  have e1:fX=stepOk:=PySem.W.Fast.te6613529449190102663.symm
  have e2:Wr=stepT:=PySem.W.Fast.te10156331382660048174.symm
  have e3:Z6=denote:=PySem.W.Fast.te11892475500146522536.symm
  rw[e1,e2,e3]
  cases through t with
  | true=>rfl
  | false=>
   dsimp only
   cases stepOk n₀ ann t with
   | false=>rfl
   | true=>
    dsimp only
    cases stepT (denote tb) p w s t with
    | none=>rfl
    | some x=>exact OW n x.1 x.2
noncomputable def J9(w:World)(os:OsState):Option SharedT:=Ur Y0 pw w 11 (some (.ref 6)) 9188 (eK w.params os) (topStub pw)
theorem Sp(w:World)(os:OsState):Si w os=J9 w os:=by
 unfold Si J9
 have e1:Y0=treeTable:=PySem.W.Fast.te14364793385576792824.symm
 rw[OW,e1]
noncomputable abbrev R8:=PySem.W.Fast.tw4187177175401517315
theorem Ym(w:World)(os:OsState):(J9 w os).map (fun r=>(staticsOk (importedModules pw.main.body) (boot_heap w.params) r.abs.heap&&namesBound pw r.abs.heap&&gensDone r.abs&&laidKept (boot_heap w.params) r.abs.heap,
  R8 qv He (importedModules pw.main.body) aZ true r.abs))=some (true,openGood qv He):=by kernel_rfl
theorem gL{β:Type}(Yf:Shared->β)(y:β)(w:World)(os:OsState)(hy:(J9 w os).map (fun r=>Yf r.abs)=some y):∃r,Si w os=some r/\
  (staticsOk (importedModules pw.main.body) (boot_heap w.params) r.abs.heap&&namesBound pw r.abs.heap&&gensDone r.abs&&laidKept (boot_heap w.params) r.abs.heap)=true/\
  R8 qv He (importedModules pw.main.body) aZ true r.abs=openGood qv He/\Yf r.abs=y:=by
 have ea:=Ym w os
 rw[<-Sp]at ea hy
 cases hr:Si w os with
 | none=>rw[hr]at hy;cases hy
 | some r=>
  rw[hr,Option.map_some]at ea hy
  obtain⟨l1,l2⟩:=Prod.mk.inj (Option.some.inj ea)
  exact⟨r,rfl,l1,l2,Option.some.inj hy⟩
theorem dP(w:World)(os:OsState)(r:SharedT)(hr:Si w os=some r):topRun treeTable pw w 11 (some (.ref 6)) 9188 ⟨boot_heap w.params,Array.mk [],boot_drawn,boot_toks,os⟩ (topStub pw)=some r.abs:=by
 have t1:=J0 9188 hr
 rw[Vr]at t1
 exact t1
theorem b1:opening pw=plainProg pw.main.scope.names:=by rfl
theorem b2(s:Shared):fenceModules? pw s=some s:=by rfl
theorem bo(w:World):(fencedOpening treeTable pw w 9188).map (fun s=>(s.heap,s.gens,s.drawn,s.toks))=some (boot_heap w.params,Array.mk [],boot_drawn,boot_toks):=boot_open (p:=pw) (N:=9188) b1 (by rfl) b2 w
theorem b5(w:World)(os:OsState)(r:Shared)(l1:(staticsOk (importedModules pw.main.body) (boot_heap w.params) r.heap&&namesBound pw r.heap&&gensDone r&&laidKept (boot_heap w.params) r.heap)=true)(t1:topRun treeTable pw w 11 (some (.ref 6)) 9188 ⟨boot_heap w.params,Array.mk [],boot_drawn,boot_toks,os⟩ (topStub pw)=some r):  topFrom treeTable pw w 9188 ⟨boot_heap w.params,Array.mk [],boot_drawn,boot_toks,os⟩=some r:=by
  obtain⟨z1,z2,z3⟩:_/\_/\_:=by simpa only [Prod.mk.injEq]using P1 w.params
  unfold topFrom
  dsimp only
  rw[z1,z2,z3,t1]
  show(match staticsOk (importedModules pw.main.body) (boot_heap w.params) r.heap&&namesBound pw r.heap&&gensDone r&&laidKept (boot_heap w.params) r.heap with | true=>_ | false=>_)=_
  rw[l1]
theorem left{β:Type}(Yf:Shared->β)(y:β)(hY:∀w os,(J9 w os).map (fun r=>Yf r.abs)=some y):LeftO pw qv He aZ Yf (fun J=>y) 9188:=fun w=>by
 obtain⟨⟨h,gs,d,k,os⟩,e,e'⟩:=Option.map_eq_some_iff.mp (bo w)
 obtain⟨rfl,rfl,rfl,rfl⟩:h=boot_heap w.params/\gs=Array.mk []/\d=boot_drawn/\k=boot_toks:=by simpa using e'
 obtain⟨r,hr,l1,l2,hy⟩:=gL Yf y w os (hY w os)
 have t:=b5 w os r.abs l1 (dP w os r hr)
 have e1:R8= @openSeen:=PySem.W.Fast.te4187177175401517315.symm
 rw[e1]at l2
 have q:openEnds treeTable pw w 9188=some r.abs:=by unfold openEnds;rw[e,Option.bind_some,t]
 rw[q,Option.map_some,l2,hy]
theorem Bh{a b:Bool}(h:a=true)(g:b=true):(a&&b)=true:=by subst h;exact g
noncomputable abbrev fP:OpenRow:=PySem.W.Fast.tw2368527892694137696 PySem.Challenge.rw_nz0526_01
theorem Z3:PySem.W.Fast.tw12908688711261696721 (RowW.prog (OpenRow.toRowW fP))=true:=by
 unfold PySem.W.Fast.tw12908688711261696721
 refine Bh (Bh (Bh (Bh (Bh ?_ ?_) ?_) ?_) ?_) ?_<;>decide+kernel
theorem Z7:PySem.W.Fast.tw17960256430627541270 fP=true:=by
 unfold PySem.W.Fast.tw17960256430627541270 PySem.W.Fast.tw2436336058641802641
 refine Bh (Bh (Bh (Bh (Bh (Bh (Bh (Bh (Bh (Bh (Bh (Bh (Bh (Bh (Bh Z3 ?_) ?_) ?_) ?_) ?_) ?_) ?_) ?_) ?_) ?_) ?_) ?_) ?_) ?_) ?_<;>decide+kernel
theorem Z2:PySem.W.Fast.tw9446332074065402090 PySem.Challenge.rw_nz0526_01=true:=by
 unfold PySem.W.Fast.tw9446332074065402090
 refine Bh (Bh (Bh (Bh (Bh (Bh (Bh (Bh (Bh (Bh (Bh (Bh (Bh (Bh (Bh (Bh (Bh (Bh Z7 ?_) ?_) ?_) ?_) ?_) ?_) ?_) ?_) ?_) ?_) ?_) ?_) ?_) ?_) ?_) ?_) ?_) ?_<;>decide+kernel
theorem eT:PySem.Challenge.rw_nz0526_01.wellSaid=true:=by
 have e:PySem.W.Fast.tw9446332074065402090= @OpenLaw.wellSaid:=PySem.W.Fast.te9446332074065402090.symm
 rw[<-e];exact Z2
noncomputable def Wy:Fn->Addr
 | .Ck=>60
 | .An=>82
 | .AU=>89
 | .DJ=>125
 | .Bn=>132
 | .CK=>139
 | .Br=>146
 | .Cm=>153
 | .Il=>160
 | .BL=>167
 | .B5=>174
 | .Cp=>181
 | .CL=>188
 | .AO=>193
 | .C6=>200
 | .B0=>403
 | .B4=>410
 | .DU=>466
 | .CX=>473
 | .Bb=>480
 | .Cs=>506
 | .Ci=>511
 | .CD=>518
 | .Bl=>525
 | .A6=>532
 | .Bz=>539
 | .Cr=>546
 | .CN=>553
 | .Bo=>560
 | .Bt=>574
 | .Ah=>581
 | .Cz=>595
 | .AN=>602
 | .AM=>621
 | .BM=>626
 | .A9=>633
 | .Bd=>640
 | .C5=>645
 | .AR=>652
 | .DH=>659
 | .BD=>666
 | .B3=>673
 | .BA=>680
 | .AY=>699
 | .AQ=>706
 | .AC=>713
 | .A5=>720
 | .Ax=>727
 | .Bg=>734
 | .Dv=>741
 | .Ao=>748
 | .AE=>753
 | .BO=>765
 | .AX=>770
 | .CP=>775
 | .Bp=>782
 | .BX=>787
 | .A7=>794
 | .Bq=>799
 | .Be=>804
 | .Cn=>811
 | .AV=>818
 | .AZ=>825
noncomputable def KA:Dz->Addr
 | .null=>63
 | .vector=>92
noncomputable def Zf(prog:Program)(w:World)(K:Frag)(p:Program)(loose:List Str)(mean:ExcName->Option Value)(mg mb:Str->Option Value)(sa:Addr)(Aa:List Int):Un:=
 { prog:=prog,w:=w,K:=K,p:=p,loose:=loose,mean:=mean,mg:=mg,mb:=mb,cls:=KA,sa:=sa,Aa:=Aa,tabA:=820}
noncomputable def Sd(K:Frag)(C:Addr)(a:Nat):Bool:=plainGet K C (wd a)&&takerIn K C (wd a)==some none&&findIn K (.ref C) (wd a)==some none
noncomputable def cB(K:Frag)(C:Addr):Bool:=hasDictIn K C&&findIn K (.ref C) "__setattr__"==some (some (.builtin "object.__setattr__"))&&plainOver K C&&kin_notT K C "str"&&plainGet K C "__class__"&&
 findIn K (.ref C) "__class__"==some (some (.builtin "object.__class__"))&&mroIn K C (.type "object")==some true&&makesIn K C&&keepIn K (.ref C)
noncomputable def cK(K:Frag)(f:Fn):Bool:=(Lc f||nsIn K mainGlobals (Rt f)==some (some (.ref (Wy f))))&&keepIn K (.ref (Wy f))&&isFn K (.ref (Wy f))
noncomputable def S1(K:Frag):Bool:=match nsIn K mainGlobals "MOST_LENGTH" with
 | some (some (.int i _))=>i==1000000
 | _=>false
noncomputable def Hr:List Fn:=[.Ck,.An,.AU,.DJ,.Bn,.CK,.Br,.Cm,.Il,.BL,.B5,.Cp,.CL,.AO,.C6,.B0,.B4,.DU,.CX,.Bb,.Cs,.Ci,.CD,.Bl,.A6,.Bz,.Cr,.CN,.Bo,.Bt,.Ah,.Cz,.AN,.AM,.BM,.A9,.Bd,.C5,.AR,.DH,.BD,.B3,.BA,.AY,.AQ,.AC,.A5,.Ax,.Bg,.Dv,.Ao,.AE,.BO,.AX,.CP,.Bp,.BX,.A7,.Bq,.Be,.Cn,.AV,.AZ]
theorem TH:∀f:Fn,Hr[f.ctorIdx]? =some f:=by intro f;cases f<;>rfl
theorem Om(f:Fn):f ∈ Hr:=List.mem_of_getElem? (TH f)
noncomputable def K3:Fn->Bool
 | .AZ=>true
 | .An=>true
 | _=>false
theorem HW:∀c,c ∈ [Dz.null,Dz.vector]:=by intro c;cases c<;>decide
noncomputable def Of(K:Frag):List Bool:=[(Hr.all fun f=>K3 f||bW K false f (Wy f)),
 (cU K 82 75),
 (Fk K 825 824),
 ([Dz.null,Dz.vector].all fun c=>CV.all fun a=>Sd K (KA c) a),
 ([Dz.null,Dz.vector].all fun c=>cB K (KA c)),
 (Hr.all fun f=>cK K f),
 (specialIn K (.builtin "object.__class__") "__get__"==some (some (.builtin "getset_descriptor.__get__"))),
 (takesIn K (.builtin "object.__class__")==some true),
 (plainGet K 92 "copy"),
 (findIn K (.ref 92) "copy"==some (some (.ref 89))),
 ((K.lookup 63).isSome),
 (nsIn K mainGlobals "Refusal"==some (some (.ref 44))),
 (keepIn K (.ref 44)),
 (dT K 44 24),
 (tailIn K B9 (.ref 24::B9)),
 (findIn K (.ref 44) "__init__"==some (some (.ref 41))),
 (isFn K (.ref 41)),
 (SN K 41),
 (findIn K (.ref 44) "__setattr__"==some (some (.builtin "object.__setattr__"))),
 (takerIn K 44 "message"==some none),
 (findIn K (.ref 44) "__getattribute__"==some (some (.builtin "BaseException.__getattribute__"))),
 (findIn K (.ref 44) "__getattr__"==some none),
 (findIn K (.ref 44) "message"==some none),
 (nsIn K mainGlobals "_law_kept"==some (some (.ref 760))),
 (keepIn K (.ref 760)),
 (R3 K 760),
 (codeHdIn K 824 820),
 (noTabs K),
 (EJ.all fun nm=>nsIn K mainGlobals (Str.ofString nm)==some none),
 ([Dz.null,Dz.vector].all fun c=>nsIn K mainGlobals (Str.ofString (FD c))==some (some (.ref (KA c)))),
 ([Dz.null,Dz.vector].all fun c=>findIn K (.ref (KA c)) "__init__"==some (some (.ref (Wy (initOf c))))),
 (S1 K),
 (nsIn K mainGlobals "law"==some (some (.ref 825)))]
structure JM(K:Frag):Prop where
 fns:∀f ∈ Hr,(K3 f||bW K false f (Wy f))=true
 vi:cU K 82 75=true
 law:Fk K 825 824=true
 a:∀c ∈ [Dz.null,Dz.vector],∀a ∈ CV,Sd K (KA c) a=true
 c:∀c ∈ [Dz.null,Dz.vector],cB K (KA c)=true
 u:∀f ∈ Hr,cK K f=true
 kg1:specialIn K (.builtin "object.__class__") "__get__"=some (some (.builtin "getset_descriptor.__get__"))
 kg2:takesIn K (.builtin "object.__class__")=some true
 km1:plainGet K 92 "copy"=true
 km2:findIn K (.ref 92) "copy"=some (some (.ref 89))
 km4:(K.lookup 63).isSome=true
 kx1:nsIn K mainGlobals "Refusal"=some (some (.ref 44))
 kx2:keepIn K (.ref 44)=true
 kx3:dT K 44 24=true
 kx4:tailIn K B9 (.ref 24::B9)=true
 kx5:findIn K (.ref 44) "__init__"=some (some (.ref 41))
 kx6:isFn K (.ref 41)=true
 kx7:SN K 41=true
 kx8:findIn K (.ref 44) "__setattr__"=some (some (.builtin "object.__setattr__"))
 kx9:takerIn K 44 "message"=some none
 kx10:findIn K (.ref 44) "__getattribute__"=some (some (.builtin "BaseException.__getattribute__"))
 kx11:findIn K (.ref 44) "__getattr__"=some none
 kx12:findIn K (.ref 44) "message"=some none
 kk1:nsIn K mainGlobals "_law_kept"=some (some (.ref 760))
 kk2:keepIn K (.ref 760)=true
 kk3:R3 K 760=true
 kl1:codeHdIn K 824 820=true
 kl2:noTabs K=true
 b1:∀nm ∈ EJ,nsIn K mainGlobals (Str.ofString nm)=some none
 b2:∀c ∈ [Dz.null,Dz.vector],nsIn K mainGlobals (Str.ofString (FD c))=some (some (.ref (KA c)))
 m3:∀c ∈ [Dz.null,Dz.vector],findIn K (.ref (KA c)) "__init__"=some (some (.ref (Wy (initOf c))))
 most:S1 K=true
 kl3:nsIn K mainGlobals "law"=some (some (.ref 825))
theorem Tj{K:Frag}(h:(Of K).all id=true):JM K:=by
 have h:=List.all_eq_true.mp h
 unfold Of at h
 obtain⟨h_fns,h⟩:=CZ.mp h
 obtain⟨h_vi,h⟩:=CZ.mp h
 obtain⟨h_law,h⟩:=CZ.mp h
 obtain⟨h_a,h⟩:=CZ.mp h
 obtain⟨h_c,h⟩:=CZ.mp h
 obtain⟨h_u,h⟩:=CZ.mp h
 obtain⟨h_kg1,h⟩:=CZ.mp h
 obtain⟨h_kg2,h⟩:=CZ.mp h
 obtain⟨h_km1,h⟩:=CZ.mp h
 obtain⟨h_km2,h⟩:=CZ.mp h
 obtain⟨h_km4,h⟩:=CZ.mp h
 obtain⟨h_kx1,h⟩:=CZ.mp h
 obtain⟨h_kx2,h⟩:=CZ.mp h
 obtain⟨h_kx3,h⟩:=CZ.mp h
 obtain⟨h_kx4,h⟩:=CZ.mp h
 obtain⟨h_kx5,h⟩:=CZ.mp h
 obtain⟨h_kx6,h⟩:=CZ.mp h
 obtain⟨h_kx7,h⟩:=CZ.mp h
 obtain⟨h_kx8,h⟩:=CZ.mp h
 obtain⟨h_kx9,h⟩:=CZ.mp h
 obtain⟨h_kx10,h⟩:=CZ.mp h
 obtain⟨h_kx11,h⟩:=CZ.mp h
 obtain⟨h_kx12,h⟩:=CZ.mp h
 obtain⟨h_kk1,h⟩:=CZ.mp h
 obtain⟨h_kk2,h⟩:=CZ.mp h
 obtain⟨h_kk3,h⟩:=CZ.mp h
 obtain⟨h_kl1,h⟩:=CZ.mp h
 obtain⟨h_kl2,h⟩:=CZ.mp h
 obtain⟨h_b1,h⟩:=CZ.mp h
 obtain⟨h_b2,h⟩:=CZ.mp h
 obtain⟨h_m3,h⟩:=CZ.mp h
 obtain⟨h_most,h⟩:=CZ.mp h
 obtain⟨h_kl3,h⟩:=CZ.mp h
 exact⟨List.all_eq_true.mp h_fns,h_vi,h_law,fun c hc a ha=>List.all_eq_true.mp (List.all_eq_true.mp h_a c hc) a ha,List.all_eq_true.mp h_c,List.all_eq_true.mp h_u,eq_of_beq h_kg1,eq_of_beq h_kg2,h_km1,eq_of_beq h_km2,h_km4,eq_of_beq h_kx1,h_kx2,h_kx3,h_kx4,eq_of_beq h_kx5,h_kx6,h_kx7,eq_of_beq h_kx8,eq_of_beq h_kx9,eq_of_beq h_kx10,eq_of_beq h_kx11,eq_of_beq h_kx12,eq_of_beq h_kk1,h_kk2,h_kk3,h_kl1,h_kl2,fun c hc=>eq_of_beq (List.all_eq_true.mp h_b1 c hc),fun c hc=>eq_of_beq (List.all_eq_true.mp h_b2 c hc),fun c hc=>eq_of_beq (List.all_eq_true.mp h_m3 c hc),h_most,eq_of_beq h_kl3⟩
theorem XW:∀i,i < 18->∀j,j < 18->∀t,Gd i j=some t->PySem.Txt.startswith (wd i) (wd j)=t:=by decide+kernel
theorem Y3:Rk Gd:=by
 refine⟨fun i j t h=> ?_⟩
 by_cases hi:i < 18
 .by_cases hj:j < 18
  .exact XW i hi j hj t h
  .unfold Gd at h
   rw[if_neg (by omega)]at h;cases h
 .unfold Gd at h
  rw[if_neg (by omega)]at h;cases h
section
variable{pr:Program}{w:World}{K:Frag}{p:Program}{loose:List Str}{mean:ExcName->Option Value}{mg mb:Str->Option Value}{sa:Addr}{Aa:List Int}
theorem aF(F:JM K):UE (Zf pr w K p loose mean mg mb sa Aa) 44 24 41 (Classical.choose (Oe F.kx3).2):=by
 have h:=Classical.choose_spec (Oe F.kx3).2
 exact⟨F.kx1,F.kx2,(Oe F.kx3).1,F.kx4,F.kx5,F.kx6,Qo (F.kx7),h.1,h.2.1,h.2.2,F.kx8,F.kx9,F.kx10,F.kx11,F.kx12⟩
set_option tactic.hygienic true in
theorem Yv(F:JM K):Mine.Txt (Zf pr w K p loose mean mg mb sa Aa) (.ref 44) Wy Aa Gd:=by
 have cl:=fun c=>F.c c (HW c)
 unfold cB at cl
 simp only [DK,beq_iff_eq]at cl
 have uc:=fun f=>F.u f (Om f)
 unfold cK at uc
 simp only [DK,beq_iff_eq,Bool.or_eq_true]at uc
 refine⟨⟨fun c a ha=> ?_,fun c=>(cl c).1.1.1.1.1.1.1.1,fun c=>(cl c).1.1.1.1.1.1.1.2,fun c=>(cl c).1.1.1.1.1.1.2⟩,⟨fun c=>(cl c).1.1.1.1.1.2,fun c=>(cl c).1.1.1.1.2,fun c=>(cl c).1.1.1.2,F.kg1,F.kg2,fun c=>(cl c).1.1.2⟩,
  ⟨F.b1,fun c=>F.b2 c (HW c)⟩,⟨fun f hf=> ?_,fun f=>(uc f).1.2⟩,⟨F.km1,F.km2,fun f=>(uc f).2,fun c=>(cl c).1.2,fun c=>F.m3 c (HW c),⟨(by decide:(3:Nat) < 63),F.km4⟩,fun c=>(cl c).2⟩,Y3,rfl,?_,⟨44,24,41,_,rfl,aF F⟩,fun f hf=> ?_⟩
 .have:=F.a c (HW c) a ha
  unfold Sd at this
  simp only [DK,beq_iff_eq]at this
  exact⟨this.1.1,this.1.2,none,this.2,rfl⟩
 .rcases (uc f).1.1 with h | h
  .rw [hf]at h;cases h
  .exact h
 .have:=F.most
  unfold S1 at this
  split at this
  .rename_i i t e
   have:=eq_of_beq this
   subst this
   exact⟨t,e⟩
  .cases this
 .have hh:=F.fns f (Om f)
  cases hs:K3 f with
  | false=>rw[hs,Bool.false_or]at hh;exact Yh hh
  | true=>
   have:f=.An:=by cases f<;>first | rfl | (exact nomatch (show false=true from hs)) | (exact nomatch (show true=false from hf))
   subst this
   exact XX (T:=75) F.vi
theorem Z5(F:JM K):UK (Zf pr w K p loose mean mg mb sa Aa) 760:=S7 F.kk1 F.kk2 F.kk3
theorem Z1(F:JM K):LK (Zf pr w K p loose mean mg mb sa Aa) 825 824:=UA F.kl1 F.law
end
noncomputable def KE(o:Obj):Bool:=match o.data with
 | .freed=>true
 | _=>false
noncomputable def Ng(o:Obj):Bool:=match o.cls,o.data with
 | .none,.fields _=>false
 | _,_=> !KE o
theorem X7{h:Heap}{a:Addr}{o:Obj}(e:h.objs[a]? =some o)(n:KE o=false):h.get? a=some o:=by
 unfold Heap.get?
 rw[e]
 obtain⟨_,_,d,_⟩:=o
 cases d<;>first | rfl | cases n
theorem KG{o:Obj}(h:Ng o=true):KE o=false:=by
 unfold Ng at h
 split at h
 .cases h
 .simpa using h
noncomputable def LX:List Addr->List Obj->Frag
 | a::r,o::q=>if Ng o=true then(a,o)::LX r q else LX r q
 | _,_=>[]
set_option tactic.hygienic true in
theorem EG{a:Addr}{o:Obj}:∀{as:List Addr} {os:List Obj},(a,o) ∈ LX as os->(a,o) ∈ as.zip os/\KE o=false
 | [],_,h=>by cases h
 | _::_,[],h=>by cases h
 | x::r,y::q,h=>by
  unfold LX at h
  rw[List.zip_cons_cons]
  split at h
  .rename_i hn
   rcases List.mem_cons.mp h with h | h
   .cases h;exact⟨.head _,KG hn⟩
   .exact ⟨.tail _ (EG h).1,(EG h).2⟩
  .exact ⟨.tail _ (EG h).1,(EG h).2⟩
noncomputable def Ny(h:Heap):Frag:=LX (List.range 826) h.objs.toList
theorem Qc(h:Heap):(Ny h).In h:=fun a o e=>by
 obtain⟨m,nf⟩:=EG (mem_of_lookupK e)
 obtain⟨i,hi,q⟩:=List.getElem_of_mem m
 rw[List.getElem_zip]at q
 obtain⟨q1,q2⟩:=Prod.mk.inj q
 rw[List.getElem_range]at q1
 subst q1
 refine X7 ?_ nf
 rw[List.length_zip]at hi
 rw[<-Array.getElem?_toList,Es]
 exact⟨by omega,q2⟩
noncomputable abbrev yf(h:Heap):Bool×Option Obj:=((Of (Ny h)).all id,h.get? 820)
theorem Xa(w:World)(os:OsState):(J9 w os).map (fun r=>yf r.abs.heap)=some (true,some (tabObj #[])):=by kernel_rfl
end
namespace P
noncomputable def BK:= @Nat.le_of_ble_eq_true
noncomputable def EK:= @List.getElem?_eq_some_iff
noncomputable def hJ:= @List.forall_mem_cons
noncomputable def C2:= @List.length_append
noncomputable def P8:= @Bool.and_eq_true
noncomputable def Mg:= @List.getElem?_append_left
noncomputable def Iu:= @List.getElem?_set_ne
noncomputable def GS:= @List.getElem?_set_self
noncomputable abbrev HO(Aa:List Int)(d:Nat):Fn->List V->M V:=D8 prog Aa Gd initOf d
noncomputable abbrev CS(Aa:List Int)(d:Nat):Iv Fn:={ Aa:=Aa,bg:=Gd,initOf:=initOf,call:=HO Aa d}
inductive Nd where | lst | tup | dct (ks:List Nat) | ins (c:Dz) (ks:List Nat)
noncomputable def Nd.ctorIdx(x:Nd):Nat:= @Nd.casesOn (fun J=>Nat) x 0 1 (fun J=>2) (fun J J=>3)
inductive TV where | s (v:V) | n (k:Nd) (xs:List TV) | u
noncomputable def TV.ctorIdx(x:TV):Nat:= @TV.casesOn (fun J=>Nat) x (fun J=>0) (fun J J=>1) 2
inductive LV where | f (t:TV) | r (i:Nat)
noncomputable def LV.ctorIdx(x:LV):Nat:= @LV.casesOn (fun J=>Nat) x (fun J=>0) (fun J=>1)
inductive LC where | lst (b:Bool) (xs:List TV) | dct (kvs:List (Nat×TV)) | dci (kvs:List (Int×TV)) | ins (c:Dz) (fs:List (Nat×LV)) | fz (t:TV)
noncomputable def LC.ctorIdx(x:LC):Nat:= @LC.casesOn (fun J=>Nat) x (fun J J=>0) (fun J=>1) (fun J=>2) (fun J J=>3) (fun J=>4)
noncomputable def Nd.cell(k:Nd)(vs:List V):Af:=k.rec (.list vs) (.tup vs) (fun ks=> .dictW (ks.zip vs)) (fun c ks=> .inst c (ks.zip vs))
noncomputable def Nd.bd(k:Nd):Nat:=k.rec 5000 5000 (fun J=>90) (fun J J=>90)
noncomputable def E9(fs:List (Nat×V)):List (Nat×V):=fs.filter fun p=>p.1 != 3
noncomputable def dm(c:Af):Af:=c.rec .list .tup .dictW .dictP .dictI (fun k fs=>(Nat.ble fs.length ((E9 fs).length+1)).rec (.dictP []) (.inst k (E9 fs))) .tab
noncomputable def gd(H:MH)(a:Nat):Option Af:=(H[a]?).map dm
inductive Rs{α β:Type}(R:α->β->Prop):List α->List β->Prop
 | nil:Rs R [] []
 | cons {a:α} {b:β} {as:List α} {bs:List β}:R a b->Rs R as bs->Rs R (a::as) (b::bs)
section
variable{α β:Type}{R R':α->β->Prop}
theorem Rs.len{as:List α}{bs:List β}(h:Rs R as bs):bs.length=as.length:=by
 induction h with
 | nil=>rfl
 | cons _ _ ih=>exact congrArg (·+1) ih
theorem Rs.mono(f:∀a b,R a b->R' a b){as:List α}{bs:List β}(h:Rs R as bs):Rs R' as bs:=by
 induction h with
 | nil=>exact .nil
 | cons x _ ih=>exact .cons (f _ _ x) ih
theorem Rs.get{as:List α}{bs:List β}(h:Rs R as bs):∀{i:Nat} {a:α},as[i]? =some a->∃b,bs[i]? =some b/\R a b:=by
 induction h with
 | nil=>intro i a e;cases e
 | cons x _ ih=>
  intro i a e
  cases i with
  | zero=>cases e;exact⟨_,rfl,x⟩
  | succ i=>exact ih e
theorem Rs.app{as as':List α}{bs bs':List β}(h:Rs R as bs)(h':Rs R as' bs'):Rs R (as++as') (bs++bs'):=by
 induction h with
 | nil=>exact h'
 | cons x _ ih=>exact .cons x ih
theorem Rs.take{as:List α}{bs:List β}(h:Rs R as bs):∀i,Rs R (as.take i) (bs.take i):=by
 induction h with
 | nil=>intro i;cases i<;>exact .nil
 | cons x _ ih=>intro i;cases i with
  | zero=>exact .nil
  | succ i=>exact .cons x (ih i)
theorem Rs.drop{as:List α}{bs:List β}(h:Rs R as bs):∀i,Rs R (as.drop i) (bs.drop i):=by
 induction h with
 | nil=>intro i;cases i<;>exact .nil
 | cons x y ih=>intro i;cases i with
  | zero=>exact .cons x y
  | succ i=>exact ih i
theorem Rs.set{as:List α}{bs:List β}(h:Rs R as bs){a:α}{b:β}(q:R a b):∀i,Rs R (as.set i a) (bs.set i b):=by
 induction h with
 | nil=>intro i;exact .nil
 | cons x y ih=>intro i;cases i with
  | zero=>exact .cons q y
  | succ i=>exact .cons x (ih i)
theorem Rs.rep{a:α}{b:β}(q:R a b):∀n,Rs R (List.replicate n a) (List.replicate n b)
 | 0=> .nil
 | n+1=> .cons q (Rs.rep q n)
theorem Rs.rev{as:List α}{bs:List β}(h:Rs R as bs):Rs R as.reverse bs.reverse:=by
 induction h with
 | nil=>exact .nil
 | cons x _ ih=>rw[List.reverse_cons,List.reverse_cons];exact ih.app (.cons x .nil)
theorem Rs.snoc{as:List α}{a:α}:∀{bs:List β},Rs R (as++[a]) bs->∃bs' b,bs=bs'++[b]/\Rs R as bs'/\R a b:=by
 induction as with
 | nil=>intro bs h;cases h with | cons x y=>cases y;exact⟨[],_,rfl,.nil,x⟩
 | cons c as ih=>
  intro bs h
  cases h with
  | cons x y=>
   obtain⟨bs',b,e,p,q⟩:=ih y
   exact⟨_::bs',b,congrArg (List.cons _) e,.cons x p,q⟩
end
noncomputable def KR{κ α β:Type}(R:α->β->Prop)(p:κ×α)(q:κ×β):Prop:=p.1=q.1/\R p.2 q.2
section
variable{α β:Type}{R:α->β->Prop}
theorem QX{as:List α}{bs:List β}(h:Rs R as bs):∀ks:List Nat,Rs (KR R) (ks.zip as) (ks.zip bs):=by
 induction h with
 | nil=>intro ks;cases ks<;>exact .nil
 | cons x _ ih=>intro ks;cases ks with
  | nil=>exact .nil
  | cons k ks=>exact .cons ⟨rfl,x⟩ (ih ks)
noncomputable def look{κ α:Type}[DecidableEq κ](k:κ):List (κ×α)->Option α
 | []=>none
 | p::r=>p.rec fun a b=>if a=k then some b else look k r
noncomputable def put{κ α:Type}[DecidableEq κ](k:κ)(v:α):List (κ×α)->List (κ×α)
 | []=>[(k,v)]
 | p::r=>if p.1=k then(k,v)::r else p::put k v r
theorem EI(k:Nat):∀l:List (Nat×V),Do k l=look k l
 | []=>rfl
 | p::r=>by unfold Do;rw[EI k r];rfl
theorem Ml(k:Int):∀l:List (Int×V),Ft k l=look k l
 | []=>rfl
 | p::r=>by unfold Ft;rw[Ml k r];rfl
theorem H9(k:Nat)(v:V):∀l:List (Nat×V),ET k v l=put k v l
 | []=>rfl
 | p::r=>by unfold ET put;rw[H9 k v r]
theorem Ox(k:Int)(v:V):∀l:List (Int×V),L7 k v l=put k v l
 | []=>rfl
 | p::r=>by unfold L7 put;rw[Ox k v r]
theorem Rs.put{κ:Type}[DecidableEq κ]{k:κ}{as:List (κ×α)}{bs:List (κ×β)}(h:Rs (KR R) as bs){a:α}{b:β}(q:R a b):Rs (KR R) (put k a as) (put k b bs):=by
 induction h with
 | nil=>exact .cons ⟨rfl,q⟩ .nil
 | @cons x y r s hx hr ih=>
  unfold P.put
  rw[<-hx.1]
  by_cases e:x.1=k
  .rw [if_pos e,if_pos e];exact .cons ⟨rfl,q⟩ hr
  .rw [if_neg e,if_neg e];exact .cons hx ih
theorem H6{κ:Type}[DecidableEq κ]{k:κ}{v:α}:∀{l:List (κ×α)},(put k v l).length<=l.length+1
 | []=>Nat.le_refl _
 | p::r=>by
  unfold P.put
  by_cases e:p.1=k
  .rw [if_pos e];exact Nat.le_succ _
  .rw [if_neg e];exact Nat.succ_le_succ H6
inductive OR{α β:Type}(R:α->β->Prop):Option α->Option β->Prop
 | no:OR R none none
 | so {a:α} {b:β}:R a b->OR R (some a) (some b)
theorem Rs.look{κ:Type}[DecidableEq κ]{k:κ}{as:List (κ×α)}{bs:List (κ×β)}(h:Rs (KR R) as bs):OR R (look k as) (look k bs):=by
 induction h with
 | nil=>exact .no
 | @cons x y r s hx hr ih=>
  show OR R (if x.1=k then some x.2 else P.look k r) (if y.1=k then some y.2 else P.look k s)
  rw[<-hx.1]
  by_cases e:x.1=k
  .rw [if_pos e,if_pos e];exact .so hx.2
  .rw [if_neg e,if_neg e];exact ih
end
mutual
inductive FR(G:Nat->Af->Prop):TV->V->Prop
 | s {v:V}:FR G (.s v) v
 | n {k:Nd} {xs:List TV} {a:Nat} {vs:List V}:G a (k.cell vs)->xs.length<=k.bd->OP G xs vs->FR G (.n k xs) (.ref a)
 | u {a:Nat}:FR G .u (.ref a)
inductive OP(G:Nat->Af->Prop):List TV->List V->Prop
 | nil:OP G [] []
 | cons {x:TV} {v:V} {xs:List TV} {vs:List V}:FR G x v->OP G xs vs->OP G (x::xs) (v::vs)
end
noncomputable abbrev Le(G G':Nat->Af->Prop):Prop:=∀a c,G a c->G' a c
section
variable{G G':Nat->Af->Prop}
mutual
theorem FR.mono(l:Le G G'):∀{t:TV} {v:V},FR G t v->FR G' t v
 | _,_,.s=> .s
 | _,_,.n a b c=> .n (l _ _ a) b (OP.mono l c)
 | _,_,.u=> .u
theorem OP.mono(l:Le G G'):∀{xs:List TV} {vs:List V},OP G xs vs->OP G' xs vs
 | _,_,.nil=> .nil
 | _,_,.cons x y=> .cons (FR.mono l x) (OP.mono l y)
end
theorem Eo:∀{xs:List TV} {vs:List V},OP G xs vs->Rs (FR G) xs vs
 | _,_,.nil=> .nil
 | _,_,.cons x y=> .cons x (Eo y)
theorem IF{xs:List TV}{vs:List V}(h:Rs (FR G) xs vs):OP G xs vs:=by
 induction h with
 | nil=>exact .nil
 | cons x _ ih=>exact .cons x ih
noncomputable def AF(G:Nat->Af->Prop)(ρ:List Nat)(x:LV)(v:V):Prop:=match x with
 | .f t=>FR G t v
 | .r i=>∃a,ρ[i]? =some a/\v=.ref a
theorem AF.mono(l:Le G G'){ρ ρ':List Nat}(p:ρ <+:ρ'){x:LV}{v:V}(h:AF G ρ x v):AF G' ρ' x v:=by
 cases x with
 | f t=>exact FR.mono l h
 | r i=>
  obtain⟨a,e,q⟩:=h
  obtain⟨t,rfl⟩:=p
  exact⟨a,by rw[Mg (EK.mp e).1];exact e,q⟩
end
structure Wd where
 ρ:List Nat
 H:MH
structure Fm where
 S:Nat->Prop
 H0:MH
noncomputable def LC.mut:LC->Bool
 | .fz _=>false
 | _=>true
noncomputable def LC.bor:LC->Bool
 | .lst b _=>b
 | _=>false
noncomputable def Sx(F:Fm)(L:List LC)(w:Wd)(a:Nat):Prop:=F.S a\/∃(i:Nat) (c:LC),w.ρ[i]? =some a/\L[i]? =some c/\c.mut=true
noncomputable def Gz(F:Fm)(L:List LC)(w:Wd)(a:Nat)(c:Af):Prop:=¬Sx F L w a/\gd w.H a=some c
noncomputable def QP(G:Nat->Af->Prop)(ρ:List Nat)(o:Option Af)(a:Nat):LC->Prop
 | .lst _ xs=>∃vs,o=some (.list vs)/\Rs (FR G) xs vs/\xs.length<=5000
 | .dct kvs=>∃q,o=some (.dictW q)/\Rs (KR (FR G)) kvs q/\kvs.length<=90
 | .dci kvs=>∃q,o=some (.dictI q)/\Rs (KR (FR G)) kvs q/\kvs.length<=90
 | .ins c fs=>∃q,o=some (.inst c q)/\Rs (KR (AF G ρ)) fs q/\fs.length<=90
 | .fz t=>FR G t (.ref a)
structure Rl(F:Fm)(L:List LC)(w:Wd):Prop where
 tab:gd w.H 0=some .tab
 t0:∀i:Nat,¬w.ρ[i]? =some 0
 nd:∀(i j a:Nat),w.ρ[i]? =some a->w.ρ[j]? =some a->i=j
 len:w.ρ.length=L.length
 lt:∀(i a:Nat),w.ρ[i]? =some a->a < w.H.length
 sF:∀a,F.S a->a < F.H0.length
 le:F.H0.length<=w.H.length
 old:∀a,a < F.H0.length->(∀i:Nat,¬w.ρ[i]? =some a)->gd w.H a=gd F.H0 a
 own:∀(i a:Nat) (c:LC),w.ρ[i]? =some a->L[i]? =some c->c.bor=false->F.H0.length<=a
 cells:∀(i a:Nat) (c:LC),w.ρ[i]? =some a->L[i]? =some c->QP (Gz F L w) w.ρ (gd w.H a) a c
structure Nx(F:Fm)(L:List LC)(w:Wd)(L':List LC)(w':Wd):Prop where
 r:Rl F L' w'
 p:w.ρ <+:w'.ρ
 l:Le (Gz F L w) (Gz F L' w')
section
variable{F:Fm}{L L' L'':List LC}{w w' w'':Wd}{G G':Nat->Af->Prop}{ρ ρ':List Nat}{o:Option Af}{a:Nat}{c:LC}
theorem Nx.refl(r:Rl F L w):Nx F L w L w:=⟨r,List.prefix_refl _,fun J J h=>h⟩
theorem Nx.trans(x:Nx F L w L' w')(y:Nx F L' w' L'' w''):Nx F L w L'' w'':=⟨y.r,x.p.trans y.p,fun a c h=>y.l a c (x.l a c h)⟩
theorem KR.mono{κ α β:Type}{R R':α->β->Prop}(f:∀a b,R a b->R' a b)(p:κ×α)(q:κ×β)(h:KR R p q):KR R' p q:=⟨h.1,f _ _ h.2⟩
theorem QP.mono'(l:Le G G')(p:∀k fs q,c=.ins k fs->Rs (KR (AF G ρ)) fs q->Rs (KR (AF G' ρ')) fs q)(h:QP G ρ o a c):QP G' ρ' o a c:=by
 cases c with
 | lst b xs=>exact let⟨vs,e,r,n⟩:=h;⟨vs,e,r.mono fun J J=>FR.mono l,n⟩
 | dct kvs=>exact let⟨vs,e,r,n⟩:=h;⟨vs,e,r.mono (KR.mono fun J J=>FR.mono l),n⟩
 | dci kvs=>exact let⟨vs,e,r,n⟩:=h;⟨vs,e,r.mono (KR.mono fun J J=>FR.mono l),n⟩
 | ins k fs=>exact let⟨vs,e,r,n⟩:=h;⟨vs,e,p k fs vs rfl r,n⟩
 | fz t=>exact FR.mono l h
theorem QP.mono(l:Le G G')(p:ρ <+:ρ')(h:QP G ρ o a c):QP G' ρ' o a c:=h.mono' l fun J J J J r=>r.mono (KR.mono fun J J=>AF.mono l p)
theorem Fc{H:MH}{c:Af}(h:gd H a=some c):a < H.length:=by
 unfold gd at h
 cases e:H[a]? with
 | none=>rw[e]at h;cases h
 | some x=>exact(EK.mp e).1
theorem It{H M:MH}(h:a < H.length):gd (H++M) a=gd H a:=by unfold gd;rw[Mg h]
theorem So{H:MH}{c:Af}{M:MH}:gd (H++c::M) H.length=some (dm c):=by unfold gd;simp
theorem Fd{H:MH}{c:Af}{b:Nat}(h:b≠a):gd (H.set a c) b=gd H b:=by unfold gd;rw[Iu (Ne.symm h)]
theorem EW{H:MH}{c:Af}(h:a < H.length):gd (H.set a c) a=some (dm c):=by unfold gd;rw[GS h];rfl
theorem Ii(r:Rl F L w){H':MH}(hl:w.H.length<=H'.length)(hk:∀b,b < w.H.length->gd H' b=gd w.H b):Nx F L w L ⟨w.ρ,H'⟩:=
 have l:Le (Gz F L w) (Gz F L ⟨w.ρ,H'⟩):=fun a c h=>⟨h.1,(hk a (Fc h.2)).trans h.2⟩
 ⟨{
   tab:=(hk 0 (Fc r.tab)).trans r.tab,t0:=r.t0,nd:=r.nd,len:=r.len,lt:=fun i a h=>Nat.lt_of_lt_of_le (r.lt i a h) hl,sF:=r.sF,le:=Nat.le_trans r.le hl,
   old:=fun a h q=>(hk a (Nat.lt_of_lt_of_le h r.le)).trans (r.old a h q),own:=r.own,
   cells:=fun i a c h q=>(hk a (r.lt i a h)).symm▸(r.cells i a c h q).mono l (List.prefix_refl _)},List.prefix_refl _,l⟩
theorem DZ{α:Type}{l:List α}{x y:α}{i:Nat}(h:(l++[x])[i]? =some y):l[i]? =some y\/(i=l.length/\y=x):=by
 rw[List.getElem?_append]at h
 by_cases q:i < l.length
 .rw [if_pos q]at h;exact .inl h
 .rw [if_neg q]at h
  cases e:i - l.length with
  | zero=>rw[e]at h;cases h;exact .inr ⟨by exact q3 ‹_› ‹_›,rfl⟩
  | succ n=>rw[e]at h;cases h
theorem Tc{α:Type}{l:List α}{x y:α}(h:(l++[x])[l.length]? =some y):y=x:=by
 rw[List.getElem?_append_right (Nat.le_refl _),Nat.sub_self]at h;cases h;rfl
theorem SH(r:Rl F L w){c:Af}{lc:LC}(hb:lc.bor=false)(hc:∀G' ρ',Le (Gz F L w) G'->w.ρ <+:ρ'->QP G' ρ' (some (dm c)) w.H.length lc):Nx F L w (L++[lc]) ⟨w.ρ++[w.H.length],w.H++[c]⟩:=
 have hp:w.ρ <+:w.ρ++[w.H.length]:=List.prefix_append ..
 have ll:∀{i a:Nat} {c':LC},(w.ρ++[w.H.length])[i]? =some a->(L++[lc])[i]? =some c'->(w.ρ[i]? =some a/\L[i]? =some c')\/(i=L.length/\a=w.H.length/\c'=lc):=fun {i a c'} h q=>by
  rcases DZ h with h | ⟨e,h⟩
  .rcases DZ q with q | ⟨e,q⟩
   .exact .inl ⟨h,q⟩
   .exact absurd ((EK.mp h).1) (by rw[e,r.len];exact Nat.lt_irrefl _)
  .rw [e,r.len]at q
   exact .inr ⟨e.trans r.len,h,Tc q⟩
 have l:Le (Gz F L w) (Gz F (L++[lc]) ⟨w.ρ++[w.H.length],w.H++[c]⟩):=fun a c' h=>⟨fun s=>s.elim (fun s=>h.1 (.inl s)) fun⟨i,c1,e1,e2,e3⟩=>(ll e1 e2).elim (fun e=>h.1 (.inr ⟨i,c1,e.1,e.2,e3⟩)) fun e=>absurd (Fc h.2) (e.2.1▸Nat.lt_irrefl _),(It (Fc h.2)).trans h.2⟩
 have lt:w.H.length < (w.H++[c]).length:=by rw[C2];exact Nat.lt_succ_self _
 ⟨{
   tab:=(It (Fc r.tab)).trans r.tab
   t0:=fun i h=>(DZ h).elim (r.t0 i) fun e=>absurd (Fc r.tab) (e.2▸Nat.lt_irrefl _)
   nd:=fun i j a h q=>(DZ h).elim (fun h=>(DZ q).elim (r.nd i j a h) fun e=>absurd (r.lt i a h) (e.2▸Nat.lt_irrefl _)) fun e=>(DZ q).elim (fun q=>absurd (r.lt j a q) (e.2▸Nat.lt_irrefl _)) fun e'=>e.1.trans e'.1.symm
   len:=by rw[C2,C2,r.len];rfl
   lt:=fun i a h=>(DZ h).elim (fun h=>Nat.lt_trans (r.lt i a h) lt) fun e=>e.2▸lt
   sF:=r.sF
   le:=Nat.le_trans r.le (Nat.le_of_lt lt)
   old:=fun a h q=>(It (Nat.lt_of_lt_of_le h r.le)).trans (r.old a h fun i e=>q i (by
    obtain⟨t,ht⟩:=hp
    show(w.ρ++[w.H.length])[i]? =_
    rw[Mg (EK.mp e).1];exact e))
   own:=fun i a c' h q b=>(ll h q).elim (fun e=>r.own i a c' e.1 e.2 b) fun e=>e.2.1▸r.le
   cells:=fun i a c' h q=>(ll h q).elim (fun e=>(It (r.lt i a e.1)).symm▸(r.cells i a c' e.1 e.2).mono l hp) fun e=>by
    obtain⟨_,rfl,rfl⟩:=e
    rw[So]
    exact hc _ _ l hp},hp,l⟩
theorem Jt(r:Rl F L w){i:Nat}{lc:LC}{H':MH}(hi:w.ρ[i]? =some a)(hm:L[i]? =some c)(hmut:c.mut=true)(hb:lc.bor=c.bor)(hl:w.H.length<=H'.length)(hk:∀b,b < w.H.length->b≠a->gd H' b=gd w.H b)
  (hc:Le (Gz F L w) (Gz F (L.set i lc) ⟨w.ρ,H'⟩)->QP (Gz F (L.set i lc) ⟨w.ρ,H'⟩) w.ρ (gd H' a) a lc):Nx F L w (L.set i lc) ⟨w.ρ,H'⟩:=
 have lt:i < L.length:=(EK.mp hm).1
 have ll:∀{j b:Nat} {c':LC},w.ρ[j]? =some b->(L.set i lc)[j]? =some c'->(j≠i/\b≠a/\L[j]? =some c')\/(j=i/\b=a/\c'=lc):=fun {j b c'} h q=>by
  by_cases e:i=j
  .subst e
   rw[hi]at h
   rw[GS lt]at q
   cases h;cases q
   exact .inr ⟨rfl,rfl,rfl⟩
  .rw [Iu e]at q
   exact .inl ⟨Ne.symm e,fun e'=>e (r.nd i j a hi (e'▸h)),q⟩
 have l:Le (Gz F L w) (Gz F (L.set i lc) ⟨w.ρ,H'⟩):=fun b c' h=>
  have ne:b≠a:=fun e=>h.1 (.inr ⟨i,c,e▸hi,hm,hmut⟩)
  ⟨fun s=>s.elim (fun s=>h.1 (.inl s)) fun⟨j,c1,e1,e2,e3⟩=>(ll e1 e2).elim (fun e=>h.1 (.inr ⟨j,c1,e1,e.2.2,e3⟩)) fun e=>ne e.2.1,(hk b (Fc h.2) ne).trans h.2⟩
 ⟨{
   tab:=(hk 0 (Fc r.tab) fun e=>r.t0 i (e▸hi)).trans r.tab
   t0:=r.t0,nd:=r.nd
   len:=by rw[List.length_set];exact r.len
   lt:=fun i a h=>Nat.lt_of_lt_of_le (r.lt i a h) hl
   sF:=r.sF
   le:=Nat.le_trans r.le hl
   old:=fun b h q=>(hk b (Nat.lt_of_lt_of_le h r.le) fun e=>q i (e▸hi)).trans (r.old b h q)
   own:=fun j b c' h q e=>(ll h q).elim (fun x=>r.own j b c' h x.2.2 e) fun x=>x.2.1▸r.own i a c hi hm (by rw[<-hb,<-x.2.2];exact e)
   cells:=fun j b c' h q=>(ll h q).elim (fun e=>(hk b (r.lt j b h) e.2.1).symm▸(r.cells j b c' h e.2.2).mono l (List.prefix_refl _)) fun e=>by
    obtain⟨_,rfl,rfl⟩:=e
    exact hc l},List.prefix_refl _,l⟩
theorem Ro(r:Rl F L w){i:Nat}{t:TV}(hi:w.ρ[i]? =some a)(hm:L[i]? =some c)(hb:c.bor=false)(hc:∀G',Le (Gz F L w) G'->(∀x,gd w.H a=some x->G' a x)->FR G' t (.ref a)):Nx F L w (L.set i (.fz t)) w/\FR (Gz F (L.set i (.fz t)) w) t (.ref a):=
 have lt:i < L.length:=(EK.mp hm).1
 have ll:∀{j b:Nat} {c':LC},w.ρ[j]? =some b->(L.set i (.fz t))[j]? =some c'->(j≠i/\b≠a/\L[j]? =some c')\/(j=i/\b=a/\c'=.fz t):=fun {j b c'} h q=>by
  by_cases e:i=j
  .subst e
   rw[hi]at h
   rw[GS lt]at q
   cases h;cases q
   exact .inr ⟨rfl,rfl,rfl⟩
  .rw [Iu e]at q
   exact .inl ⟨Ne.symm e,fun e'=>e (r.nd i j a hi (e'▸h)),q⟩
 have sx:∀{b},Sx F (L.set i (.fz t)) w b->Sx F L w b/\b≠a:=fun {b} s=>s.elim (fun s=>⟨.inl s,fun e=>absurd (r.sF b s) (by rw[e];exact Nat.not_lt.mpr (r.own i a c hi hm hb))⟩) fun⟨j,c1,e1,e2,e3⟩=>(ll e1 e2).elim (fun e=>⟨.inr ⟨j,c1,e1,e.2.2,e3⟩,e.2.1⟩) fun e=>by rw[e.2.2]at e3;cases e3
 have l:Le (Gz F L w) (Gz F (L.set i (.fz t)) w):=fun b c' h=>⟨fun s=>h.1 (sx s).1,h.2⟩
 have fr:FR (Gz F (L.set i (.fz t)) w) t (.ref a):=hc _ l fun x hx=>⟨fun s=>(sx s).2 rfl,hx⟩
 ⟨⟨{
   tab:=r.tab,t0:=r.t0,nd:=r.nd,lt:=r.lt,sF:=r.sF,le:=r.le,old:=r.old
   len:=by rw[List.length_set];exact r.len
   own:=fun j b c' h q e=>(ll h q).elim (fun x=>r.own j b c' h x.2.2 e) fun x=>x.2.1▸r.own i a c hi hm hb
   cells:=fun j b c' h q=>(ll h q).elim (fun e=>(r.cells j b c' h e.2.2).mono l (List.prefix_refl _)) fun e=>by
    obtain⟨_,rfl,rfl⟩:=e
    exact fr},List.prefix_refl _,l⟩,fr⟩
noncomputable def LV.lo(n:Nat):LV->Bool
 | .f _=>true
 | .r i=>Nat.blt i n
noncomputable def LC.lo(n:Nat):LC->Bool
 | .ins _ fs=>fs.all fun p=>p.2.lo n
 | _=>true
theorem Zr(l:Le G G'){n:Nat}{fs:List (Nat×LV)}{q:List (Nat×V)}(h:Rs (KR (AF G ρ)) fs q):fs.all (fun p=>p.2.lo n)=true->Rs (KR (AF G' (ρ.take n))) fs q:=by
 induction h with
 | nil=>exact fun J=> .nil
 | @cons p v fs q hx _ ih=>
  intro e
  rw[List.all_cons,P8]at e
  refine .cons ⟨hx.1,?_⟩ (ih e.2)
  have h2:=hx.2
  have e1:=e.1
  revert h2 e1
  cases p.2 with
  | f t=>exact fun h2 J=>FR.mono l h2
  | r i=>exact fun⟨a,e2,e3⟩ e1=>⟨a,by rw[List.getElem?_take,if_pos (Nat.blt_eq.mp e1)];exact e2,e3⟩
theorem OE(r:Rl F L w){n:Nat}(h:(L.take n).all (LC.lo n)=true)(hn:(L.drop n).all (fun c=> !c.bor)=true):Rl F (L.take n) ⟨w.ρ.take n,w.H⟩/\Le (Gz F L w) (Gz F (L.take n) ⟨w.ρ.take n,w.H⟩):=
 have tk:∀{α:Type} {l:List α} {i:Nat} {x:α},(l.take n)[i]? =some x->l[i]? =some x/\i < n:=fun {α l i x} e=>by
  rw[List.getElem?_take]at e
  by_cases q:i < n
  .rw [if_pos q]at e;exact⟨e,q⟩
  .rw [if_neg q]at e;cases e
 have l:Le (Gz F L w) (Gz F (L.take n) ⟨w.ρ.take n,w.H⟩):=fun a c h=>⟨fun s=>h.1 (s.imp id fun⟨i,c1,e1,e2,e3⟩=>⟨i,c1,(tk e1).1,(tk e2).1,e3⟩),h.2⟩
 ⟨{
   tab:=r.tab,t0:=fun i e=>r.t0 i (tk e).1,nd:=fun i j a e e'=>r.nd i j a (tk e).1 (tk e').1
   len:=by rw[List.length_take,List.length_take,r.len]
   lt:=fun i a e=>r.lt i a (tk e).1,sF:=r.sF,le:=r.le
   old:=fun a h (q:∀i:Nat,¬(w.ρ.take n)[i]? =some a)=>by
    by_cases e:∃i:Nat,w.ρ[i]? =some a
    .obtain ⟨i,e⟩:=e
     have hn':n<=i:=Nat.not_lt.mp fun hn=>q i (by show(w.ρ.take n)[i]? =_;rw[List.getElem?_take,if_pos hn];exact e)
     obtain⟨c,hc⟩:∃c,L[i]? =some c:=⟨_,List.getElem?_eq_getElem (r.len▸(EK.mp e).1)⟩
     have hb:=List.all_eq_true.mp hn c (List.mem_of_getElem? (i:=i - n) (by rw[List.getElem?_drop,Nat.add_sub_cancel' hn'];exact hc))
     exact absurd h (Nat.not_lt.mpr (r.own i a c e hc (by cases q:c.bor with | false=>rfl | true=>rw[q]at hb;cases hb)))
    .exact r.old a h fun i h=>e ⟨i,h⟩
   own:=fun i a c e e'=>r.own i a c (tk e).1 (tk e').1
   cells:=fun i a c e e'=>by
    have lo:=List.all_eq_true.mp h c (List.mem_of_getElem? e')
    exact(r.cells i a c (tk e).1 (tk e').1).mono' l fun k fs q ec hr=>by subst ec;exact Zr l hr lo},l⟩
end
inductive Ct where | lst (xs:List TV) | tup (xs:List TV) | dct (kvs:List (Nat×TV)) | dci (kvs:List (Int×TV)) | ins (c:Dz) (fs:List (Nat×LV))
noncomputable def Ct.ctorIdx(x:Ct):Nat:= @Ct.casesOn (fun J=>Nat) x (fun J=>0) (fun J=>1) (fun J=>2) (fun J=>3) (fun J J=>4)
noncomputable def Nd.ct(k:Nd)(xs:List TV):Ct:=k.casesOn (.lst xs) (.tup xs) (fun ks=> .dct (ks.zip xs)) (fun c ks=> .ins c ((ks.zip xs).map fun p=>p.rec fun a b=>(a,.f b)))
noncomputable def TV.ct(t:TV):Option Ct:=t.casesOn (fun J=>none) (fun k xs=>some (k.ct xs)) none
noncomputable def LC.ct(c:LC):Option Ct:=c.casesOn (fun J xs=>some (.lst xs)) (fun kvs=>some (.dct kvs)) (fun kvs=>some (.dci kvs)) (fun c fs=>some (.ins c fs)) TV.ct
noncomputable def LV.ct(L:List LC)(v:LV):Option Ct:=v.casesOn TV.ct fun i=>(L[i]?).rec none LC.ct
theorem ob{α β:Type}{o:Option α}{f:α->Option β}{y:β}(e:o.rec none f=some y):∃x,o=some x/\f x=some y:=by
 cases o with
 | none=>cases e
 | some x=>exact⟨x,rfl,e⟩
noncomputable def eV(G:Nat->Af->Prop)(ρ:List Nat)(o:Option Af):Ct->Prop
 | .lst xs=>∃vs,o=some (.list vs)/\Rs (FR G) xs vs/\xs.length<=5000
 | .tup xs=>∃vs,o=some (.tup vs)/\Rs (FR G) xs vs/\xs.length<=5000
 | .dct kvs=>∃q,o=some (.dictW q)/\Rs (KR (FR G)) kvs q/\kvs.length<=90
 | .dci kvs=>∃q,o=some (.dictI q)/\Rs (KR (FR G)) kvs q/\kvs.length<=90
 | .ins c fs=>∃q,o=some (.inst c q)/\Rs (KR (AF G ρ)) fs q/\fs.length<=90
section
variable{F:Fm}{L:List LC}{w:Wd}{G:Nat->Af->Prop}{ρ:List Nat}{o:Option Af}{a:Nat}
theorem eY{as:List (Nat×TV)}{bs:List (Nat×V)}(h:Rs (KR (FR G)) as bs):Rs (KR (AF G ρ)) (as.map fun p=>p.rec fun a b=>(a,.f b)) bs:=by
 induction h with
 | nil=>exact .nil
 | cons x _ ih=>exact .cons ⟨x.1,x.2⟩ ih
theorem R7{α β:Type}(as:List α){bs:List β}{n:Nat}(h:bs.length<=n):(as.zip bs).length<=n:=by
 rw[List.length_zip];exact Nat.le_trans (Nat.min_le_right _ _) h
theorem ZS{k:Nd}{xs:List TV}{vs:List V}(e:o=some (k.cell vs))(hl:xs.length<=k.bd)(hx:OP G xs vs):eV G ρ o (k.ct xs):=by
 cases k with
 | lst=>exact⟨vs,e,Eo hx,hl⟩
 | tup=>exact⟨vs,e,Eo hx,hl⟩
 | dct ks=>exact⟨_,e,QX (Eo hx) ks,R7 ks hl⟩
 | ins c ks=>exact⟨_,e,eY (QX (Eo hx) ks),by rw[List.length_map];exact R7 ks hl⟩
theorem Wq{t:TV}{v:V}{ct:Ct}(h:FR (Gz F L w) t v)(e:t.ct=some ct):∃a,v=.ref a/\eV (Gz F L w) w.ρ (gd w.H a) ct:=by
 cases h with
 | s=>cases e
 | u=>cases e
 | n h1 h2 h3=>cases e;exact⟨_,rfl,ZS h1.2 h2 h3⟩
theorem Hz(r:Rl F L w){x:LV}{v:V}{ct:Ct}(h:AF (Gz F L w) w.ρ x v)(e:x.ct L=some ct):∃a,v=.ref a/\eV (Gz F L w) w.ρ (gd w.H a) ct:=by
 cases x with
 | f t=>exact Wq h e
 | r i=>
  obtain⟨a,h1,rfl⟩:=h
  obtain⟨c,hc,e⟩:=ob e
  have x:=r.cells i a c h1 hc
  cases c with
  | fz t=>exact Wq x e
  | lst b xs=>cases e;exact⟨a,rfl,x⟩
  | dct kvs=>cases e;exact⟨a,rfl,x⟩
  | dci kvs=>cases e;exact⟨a,rfl,x⟩
  | ins c fs=>cases e;exact⟨a,rfl,x⟩
theorem Jo{H:MH}{c:Af}(h:gd H a=some c):∃c',H[a]? =some c'/\dm c'=c:=by
 unfold gd at h
 cases e:H[a]? with
 | none=>rw[e]at h;cases h
 | some c'=>rw[e]at h;exact⟨c',rfl,Option.some.inj h⟩
theorem GI{c:Dz}{fs:List (Nat×V)}{x:Af}(h:dm (.inst c fs)=x):(x=.dictP [])\/(x=.inst c (E9 fs)/\fs.length<=(E9 fs).length+1):=by
 have h:(Nat.ble fs.length ((E9 fs).length+1)).rec (Af.dictP []) (.inst c (E9 fs))=x:=h
 cases e:Nat.ble fs.length ((E9 fs).length+1)with
 | false=>rw[e]at h;exact .inl h.symm
 | true=>rw[e]at h;exact .inr ⟨h.symm,BK e⟩
noncomputable def gJ(c:Af):Bool:=c.rec (fun J=>true) (fun J=>true) (fun J=>true) (fun J=>false) (fun J=>true) (fun J J=>false) false
theorem TY{H:MH}{c:Af}(h:gd H a=some c)(hs:gJ c=true):H[a]? =some c:=by
 obtain⟨c',e,h⟩:=Jo h
 cases c' with
 | inst k fs=>rcases GI h with h | ⟨h,_⟩<;>rw[h]at hs<;>cases hs
 | tab=>rw[<-h]at hs;cases hs
 | _=>rw[e];exact congrArg some h
theorem DD{H:MH}{vs:List V}(h:gd H a=some (.list vs)):H[a]? =some (.list vs):=TY h rfl
theorem Hd{H:MH}{vs:List V}(h:gd H a=some (.tup vs)):H[a]? =some (.tup vs):=TY h rfl
theorem DF{H:MH}{vs:List (Nat×V)}(h:gd H a=some (.dictW vs)):H[a]? =some (.dictW vs):=TY h rfl
theorem Mo{H:MH}{vs:List (Int×V)}(h:gd H a=some (.dictI vs)):H[a]? =some (.dictI vs):=TY h rfl
theorem HZ{H:MH}{c:Dz}{q:List (Nat×V)}(h:gd H a=some (.inst c q)):∃fs,H[a]? =some (.inst c fs)/\q=E9 fs/\fs.length<=q.length+1:=by
 obtain⟨c',e,h⟩:=Jo h
 cases c' with
 | inst k fs=>
  rcases GI h with h | ⟨h,l⟩
  .cases h
  .cases h;exact⟨fs,e,rfl,l⟩
 | _=>cases h
noncomputable def Ct.l?(c:Ct):Option (List TV):=c.casesOn some (fun J=>none) (fun J=>none) (fun J=>none) fun J J=>none
noncomputable def Ct.t?(c:Ct):Option (List TV):=c.casesOn (fun J=>none) some (fun J=>none) (fun J=>none) fun J J=>none
noncomputable def Ct.d?(c:Ct):Option (List (Nat×TV)):=c.casesOn (fun J=>none) (fun J=>none) some (fun J=>none) fun J J=>none
noncomputable def Ct.e?(c:Ct):Option (List (Int×TV)):=c.casesOn (fun J=>none) (fun J=>none) (fun J=>none) some fun J J=>none
noncomputable def Ct.i?(c:Ct):Option (Dz×List (Nat×LV)):=c.casesOn (fun J=>none) (fun J=>none) (fun J=>none) (fun J=>none) fun c fs=>some (c,fs)
noncomputable def rd{α:Type}(f:Ct->Option α)(L:List LC)(v:LV):Option α:=(v.ct L).rec none f
theorem GR{α:Type}{f:Ct->Option α}{v:LV}{x:α}(e:rd f L v=some x):∃ct,v.ct L=some ct/\f ct=some x:=ob e
inductive aU(F:Fm)(L:List LC)(w:Wd)(v:V)(xs:List TV):Prop
 | mk (a:_) (vs:_) (q0:v=.ref a) (q1:w.H[a]? =some (.list vs)) (q2:Rs (FR (Gz F L w)) xs vs) (q3:xs.length<=5000):aU F L w v xs
theorem O2(r:Rl F L w){x:LV}{v:V}{xs:List TV}(h:AF (Gz F L w) w.ρ x v)(e:rd Ct.l? L x=some xs):aU F L w v xs:=by
 obtain⟨ct,e1,e2⟩:=GR e
 obtain⟨a,rfl,q⟩:=Hz r h e1
 cases ct with
 | lst ys=>cases e2;exact let⟨vs,p,q⟩:=q;⟨a,vs,rfl,DD p,q.1,q.2⟩
 | _=>cases e2
inductive aY(F:Fm)(L:List LC)(w:Wd)(v:V)(xs:List TV):Prop
 | mk (a:_) (vs:_) (q0:v=.ref a) (q1:w.H[a]? =some (.tup vs)) (q2:Rs (FR (Gz F L w)) xs vs) (q3:xs.length<=5000):aY F L w v xs
theorem fM(r:Rl F L w){x:LV}{v:V}{xs:List TV}(h:AF (Gz F L w) w.ρ x v)(e:rd Ct.t? L x=some xs):aY F L w v xs:=by
 obtain⟨ct,e1,e2⟩:=GR e
 obtain⟨a,rfl,q⟩:=Hz r h e1
 cases ct with
 | tup ys=>cases e2;exact let⟨vs,p,q⟩:=q;⟨a,vs,rfl,Hd p,q.1,q.2⟩
 | _=>cases e2
inductive Zy(F:Fm)(L:List LC)(w:Wd)(v:V)(xs:List (Nat×TV)):Prop
 | mk (a:_) (vs:_) (q0:v=.ref a) (q1:w.H[a]? =some (.dictW vs)) (q2:Rs (KR (FR (Gz F L w))) xs vs) (q3:xs.length<=90):Zy F L w v xs
theorem ZP(r:Rl F L w){x:LV}{v:V}{xs:List (Nat×TV)}(h:AF (Gz F L w) w.ρ x v)(e:rd Ct.d? L x=some xs):Zy F L w v xs:=by
 obtain⟨ct,e1,e2⟩:=GR e
 obtain⟨a,rfl,q⟩:=Hz r h e1
 cases ct with
 | dct ys=>cases e2;exact let⟨vs,p,q⟩:=q;⟨a,vs,rfl,DF p,q.1,q.2⟩
 | _=>cases e2
inductive aV(F:Fm)(L:List LC)(w:Wd)(v:V)(xs:List (Int×TV)):Prop
 | mk (a:_) (vs:_) (q0:v=.ref a) (q1:w.H[a]? =some (.dictI vs)) (q2:Rs (KR (FR (Gz F L w))) xs vs) (q3:xs.length<=90):aV F L w v xs
theorem gA(r:Rl F L w){x:LV}{v:V}{xs:List (Int×TV)}(h:AF (Gz F L w) w.ρ x v)(e:rd Ct.e? L x=some xs):aV F L w v xs:=by
 obtain⟨ct,e1,e2⟩:=GR e
 obtain⟨a,rfl,q⟩:=Hz r h e1
 cases ct with
 | dci ys=>cases e2;exact let⟨vs,p,q⟩:=q;⟨a,vs,rfl,Mo p,q.1,q.2⟩
 | _=>cases e2
inductive Zg(F:Fm)(L:List LC)(w:Wd)(v:V)(p:Dz×List (Nat×LV)):Prop
 | mk (a:_) (fs:_) (q0:v=.ref a) (q1:w.H[a]? =some (.inst p.1 fs)) (q2:Rs (KR (AF (Gz F L w) w.ρ)) p.2 (E9 fs)) (q3:p.2.length<=90) (q4:fs.length<=(E9 fs).length+1):Zg F L w v p
theorem eS(r:Rl F L w){x:LV}{v:V}{p:Dz×List (Nat×LV)}(h:AF (Gz F L w) w.ρ x v)(e:rd Ct.i? L x=some p):Zg F L w v p:=by
 obtain⟨ct,e1,e2⟩:=GR e
 obtain⟨a,rfl,q⟩:=Hz r h e1
 cases ct with
 | ins c fs=>
  cases e2
  obtain⟨vs,p,q1,q2⟩:=q
  obtain⟨fs',e3,rfl,e4⟩:=HZ p
  exact⟨a,fs',rfl,e3,q1,q2,e4⟩
 | _=>cases e2
theorem DG{k:Nat}(hk:k≠3):∀fs:List (Nat×V),look k (E9 fs)=look k fs
 | []=>rfl
 | p::r=>by
  unfold E9
  rw[List.filter_cons]
  by_cases h:p.1=3
  .rw [if_neg (by rw[h];decide)];refine(DG hk r).trans ?_;exact(if_neg (by rw[h];exact Ne.symm hk)).symm
  .rw [if_pos (by exact bne_iff_ne.mpr h)];exact congrArg (fun x=>if p.1=k then some p.2 else x) (DG hk r)
end
inductive Oc(α:Type) where | ok (a:α) (L:List LC) | exc (m:Nat) (L:List LC)
noncomputable def Oc.ctorIdx{α:Type}(x:Oc α):Nat:= @Oc.casesOn α (fun J=>Nat) x (fun J J=>0) (fun J J=>1)
noncomputable abbrev Ed(τ α:Type):Type:=(Nat->Af->Prop)->List Nat->τ->α->Prop
noncomputable def Rn{τ α:Type}(F:Fm)(L:List LC)(w:Wd)(m:M α)(rel:Ed τ α):Oc τ->Prop
 | .ok t L'=>∃a w',m w.H=.ok a w'.H/\Nx F L w L' w'/\rel (Gz F L' w') w'.ρ t a
 | .exc e L'=>∃w',m w.H=.exc e w'.H/\Nx F L w L' w'
noncomputable def Sm{σ τ ς α:Type}(R:Ed σ ς)(rel:Ed τ α)(m:ς->M α)(x:σ)(L:List LC)(out:Oc τ):Prop:=∀F w s,Rl F L w->R (Gz F L w) w.ρ x s->Rn F L w (m s) rel out
inductive Sc where | z | a (s:Sc) | b (s:Sc) | c (s:Sc) | d (s:Sc)
noncomputable abbrev Kt(τ:Type):Type:=τ->List LC->Sc->Prop
noncomputable abbrev Tr(σ τ:Type):Type:=σ->List LC->Sc->Kt τ->Kt Nat->Prop
noncomputable def AW{σ τ ς α:Type}(R:Ed σ ς)(rel:Ed τ α)(m:ς->M α)(k:Tr σ τ):Prop:=
 ∀x L sc K X,(∀t L' sc',Sm R rel m x L (.ok t L')->K t L' sc')->(∀e L' sc',Sm R rel m x L (.exc e L')->X e L' sc')->k x L sc K X
noncomputable def FN{σ ς:Type}(R:Ed σ ς):Prop:=∀{G G':Nat->Af->Prop} {ρ ρ':List Nat},Le G G'->ρ <+:ρ'->∀{x:σ} {s:ς},R G ρ x s->R G' ρ' x s
noncomputable def P2{σ ς τ α:Type}(R:Ed σ ς)(S:Ed τ α):Ed (σ×τ) (ς×α):=fun G ρ p q=>R G ρ p.1 q.1/\S G ρ p.2 q.2
section
variable{σ τ υ ς α β:Type}{R:Ed σ ς}{rel:Ed τ α}{rel2:Ed υ β}{F:Fm}{L L':List LC}{w w':Wd}
theorem DT:FN AF:=fun l p J J h=>AF.mono l p h
theorem CY{S:Ed τ α}(a:FN R)(b:FN S):FN (P2 R S):=fun l p J J h=>⟨a l p h.1,b l p h.2⟩
theorem Av{m:M α}{f:α->M β}{H H':MH}{a:α}(e:m H=.ok a H'):Mine.bnd m f H=f a H':=by
 show(match m H with | .ok a H'=>f a H' | .exc e H'=> .exc e H' | .bad=> .bad)=_
 rw[e]
theorem Ui{m:M α}{f:α->M β}{H H':MH}{x:Nat}(e:m H=.exc x H'):Mine.bnd m f H=.exc x H':=by
 show(match m H with | .ok a H'=>f a H' | .exc e H'=> .exc e H' | .bad=> .bad)=_
 rw[e]
theorem Rn.bnd{m:M α}{f:α->M β}{t:τ}{out:Oc υ}(h:Rn F L w m rel (.ok t L'))(k:∀w' a,Nx F L w L' w'->rel (Gz F L' w') w'.ρ t a->Rn F L' w' (f a) rel2 out):Rn F L w (Mine.bnd m f) rel2 out:=by
 obtain⟨a,w',e,n,r⟩:=h
 have h2:=k w' a n r
 cases out with
 | ok u L2=>exact let⟨b,w2,e2,n2,r2⟩:=h2;⟨b,w2,(Av e).trans e2,n.trans n2,r2⟩
 | exc x L2=>exact let⟨w2,e2,n2⟩:=h2;⟨w2,(Av e).trans e2,n.trans n2⟩
theorem Rn.exc{m:M α}{f:α->M β}{x:Nat}(h:Rn F L w m rel (.exc x L')):Rn F L w (Mine.bnd m f) rel2 (.exc x L'):=by
 exact let⟨w',e,n⟩:=h;⟨w',Ui e,n⟩
theorem Aw(mo:FN R){m:ς->M α}{k:Tr σ τ}{f:ς×α->M β}{k2:Tr (σ×τ) υ}(h:AW R rel m k)(h2:AW (P2 R rel) rel2 f k2):
  AW R rel2 (fun s=>Mine.bnd (m s) fun a=>f (s,a)) fun x L sc K X=>k x L sc (fun t L sc=>k2 (x,t) L sc K X) X:=fun x J J J J hK hX=>
 h x _ _ _ _ (fun t L1 J h1=>h2 (x,t) L1 _ _ _
   (fun u L2 sc2 q=>hK u L2 sc2 fun F w s r hs=>(h1 F w s r hs).bnd fun w1 a n p=>q F w1 (s,a) n.r ⟨mo n.l n.p hs,p⟩)
   (fun u L2 sc2 q=>hX u L2 sc2 fun F w s r hs=>(h1 F w s r hs).bnd fun w1 a n p=>q F w1 (s,a) n.r ⟨mo n.l n.p hs,p⟩))
  fun e L1 sc1 h1=>hX e L1 sc1 fun F w s r hs=>(h1 F w s r hs).exc
theorem Cu{σ' ς':Type}{R':Ed σ' ς'}{g:ς'->ς}{g':σ'->σ}{m:ς->M α}{k:Tr σ τ}(h:AW R rel m k)(hg:∀{G ρ x s},R' G ρ x s->R G ρ (g' x) (g s)):AW R' rel (fun s=>m (g s)) fun x=>k (g' x):=fun x L sc K X hK hX=>
 h (g' x) L sc K X (fun t L1 sc1 q=>hK t L1 sc1 fun F w s r hs=>q F w (g s) r (hg hs)) fun t L1 sc1 q=>hX t L1 sc1 fun F w s r hs=>q F w (g s) r (hg hs)
theorem XM{m:ς->M α}{k:Tr σ τ}{f:α->M β}{k2:Tr τ υ}(mo:FN R)(h:AW R rel m k)(h2:AW rel rel2 f k2):AW R rel2 (fun s=>Mine.bnd (m s) f) fun x L sc K X=>k x L sc (fun t L sc=>k2 t L sc K X) X:=
 Aw mo h (Cu (g:=Prod.snd) (g':=Prod.snd) h2 fun h=>h.2)
theorem Uv{τ' α':Type}{rel':Ed τ' α'}{m:ς->M α}{k:Tr σ τ}{m':ς->M α'}{k':Tr σ τ'}{f:α->α'->M β}{k2:τ->Tr τ' υ}(mo:FN R)(mr:FN rel)(h:AW R rel m k)(h':AW R rel' m' k')(h2:AW (P2 rel rel') rel2 (fun p=>f p.1 p.2) fun p=>k2 p.1 p.2):
  AW R rel2 (fun s=>Mine.bnd (m s) fun x=>Mine.bnd (m' s) fun y=>f x y) fun x L sc K X=>k x L sc (fun t L sc=>k' x L sc (fun u L sc=>k2 t u L sc K X) X) X:=
 Aw mo h (Aw (CY mo mr) (f:=fun p=>f p.1.2 p.2) (k2:=fun p=>k2 p.1.2 p.2) (Cu (g:=Prod.fst) (g':=Prod.fst) h' fun h=>h.1) (Cu (R':=P2 (P2 R rel) rel') (g:=fun p:(ς×α)×α'=>(p.1.2,p.2)) (g':=fun p:(σ×τ)×τ'=>(p.1.2,p.2)) h2 fun h=>⟨h.1.2,h.2⟩))
theorem TO{τ' α' γ δ:Type}{rel':Ed τ' α'}{relc:Ed γ δ}{m:ς->M α}{k:Tr σ τ}{m':ς->M α'}{k':Tr σ τ'}{c:α->M δ}{kc:Tr τ γ}{f:α->δ->α'->M β}{k2:τ->γ->Tr τ' υ}(mo:FN R)(mr:FN rel)(mc:FN relc)(h:AW R rel m k)(hc:AW rel relc c kc)(h':AW R rel' m' k')(h2:AW (P2 (P2 rel relc) rel') rel2 (fun p=>f p.1.1 p.1.2 p.2) fun p=>k2 p.1.1 p.1.2 p.2):
  AW R rel2 (fun s=>Mine.bnd (m s) fun x=>Mine.bnd (c x) fun z=>Mine.bnd (m' s) fun y=>f x z y) fun x L sc K X=>k x L sc (fun t L sc=>kc t L sc (fun g L sc=>k' x L sc (fun u L sc=>k2 t g u L sc K X) X) X) X:=
 Aw mo h (Aw (CY mo mr) (f:=fun p=>Mine.bnd (m' p.1.1) fun y=>f p.1.2 p.2 y) (k2:=fun p L sc K X=>k' p.1.1 L sc (fun u L sc=>k2 p.1.2 p.2 u L sc K X) X) (Cu (g:=Prod.snd) (g':=Prod.snd) hc fun h=>h.2)
  (Aw (CY (CY mo mr) mc) (f:=fun p=>f p.1.1.2 p.1.2 p.2) (k2:=fun p=>k2 p.1.1.2 p.1.2 p.2) (Cu (R':=P2 (P2 R rel) relc) (g:=fun p:(ς×α)×δ=>p.1.1) (g':=fun p:(σ×τ)×γ=>p.1.1) h' fun h=>h.1.1) (Cu (R':=P2 (P2 (P2 R rel) relc) rel') (g:=fun p:((ς×α)×δ)×α'=>((p.1.1.2,p.1.2),p.2)) (g':=fun p:((σ×τ)×γ)×τ'=>((p.1.1.2,p.1.2),p.2)) h2 fun h=>⟨⟨h.1.1.2,h.1.2⟩,h.2⟩)))
noncomputable def oE{α:Type}(o:Option α)(k:α->Prop):Prop:=o.rec True k
theorem Ay{α:Type}{o:Option α}{k:α->Prop}(h:∀x,o=some x->k x):oE o k:=by
 cases o with
 | none=>trivial
 | some x=>exact h x rfl
noncomputable def bE(b:Bool)(k:Prop):Prop:=b.rec True k
theorem Hg{b:Bool}{k:Prop}(h:b=true->k):bE b k:=by
 cases b with
 | false=>trivial
 | true=>exact h rfl
noncomputable def sE(s:Sc)(a b c d:Sc->Prop):Prop:=s.casesOn (a .z) a b c d
theorem HL{s:Sc}{a b c d:Sc->Prop}(ha:∀s,a s)(hb:∀s,b s)(hc:∀s,c s)(hd:∀s,d s):sE s a b c d:=by
 cases s with
 | z=>exact ha .z
 | a s=>exact ha s
 | b s=>exact hb s
 | c s=>exact hc s
 | d s=>exact hd s
noncomputable def tE(p:Prop)[Decidable p](s:Sc)(k:Bool->Sc->Prop):Prop:=sE s (k (decide p)) (fun s=>p->k true s) (fun s=>¬p->k false s) fun J=>True
theorem ZI{p:Prop}[Decidable p]{s:Sc}{k:Bool->Sc->Prop}(h:∀s,k (decide p) s):tE p s k:=
 HL h (fun s q=>decide_eq_true q▸h s) (fun s q=>decide_eq_false q▸h s) fun J=>trivial
noncomputable def LV.s?(v:LV):Option V:=v.casesOn (fun t=>t.casesOn some (fun J J=>none) none) fun J=>none
noncomputable def Vi(v:V):Option Int:=v.casesOn none (fun J=>none) some (fun J=>none) (fun J=>none) (fun J=>none) none
noncomputable def Vw(v:V):Option Nat:=v.casesOn none (fun J=>none) (fun J=>none) some (fun J=>none) (fun J=>none) none
noncomputable def Vb(v:V):Option Bool:=v.casesOn none some (fun J=>none) (fun J=>none) (fun J=>none) (fun J=>none) none
noncomputable def LV.i?(v:LV):Option Int:=v.s?.rec none Vi
noncomputable def LV.w?(v:LV):Option Nat:=v.s?.rec none Vw
noncomputable def LV.b?(v:LV):Option Bool:=v.s?.rec none Vb
noncomputable def Io(i:Int):Option Nat:=i.casesOn some fun J=>none
theorem J5{i:Int}{n:Nat}(e:Io i=some n):i=(n:Int):=by
 cases i with
 | ofNat m=>cases e;rfl
 | negSucc m=>cases e
variable{G:Nat->Af->Prop}{ρ:List Nat}
theorem N9{x:LV}{v u:V}(e:x.s? =some u)(h:AF G ρ x v):v=u:=by
 cases x with
 | r i=>cases e
 | f t=>cases t with
  | n k xs=>cases e
  | u=>cases e
  | s y=>cases e;cases h;rfl
theorem EQ{x:LV}{v:V}{i:Int}(e:x.i? =some i)(h:AF G ρ x v):v=.int i:=by
 obtain⟨y,e1,e2⟩:=ob e
 rw[N9 e1 h]
 cases y with
 | int j=>cases e2;rfl
 | _=>cases e2
theorem JG{x:LV}{v:V}{i:Nat}(e:x.w? =some i)(h:AF G ρ x v):v=.w i:=by
 obtain⟨y,e1,e2⟩:=ob e
 rw[N9 e1 h]
 cases y with
 | w j=>cases e2;rfl
 | _=>cases e2
theorem Rw{x:LV}{v:V}{i:Bool}(e:x.b? =some i)(h:AF G ρ x v):v=.bool i:=by
 obtain⟨y,e1,e2⟩:=ob e
 rw[N9 e1 h]
 cases y with
 | bool j=>cases e2;rfl
 | _=>cases e2
noncomputable abbrev sv(v:V):LV:= .f (.s v)
theorem Rn.same{m:M α}{a:α}{t:τ}(r:Rl F L w)(e:m w.H=.ok a w.H)(h:rel (Gz F L w) w.ρ t a):Rn F L w m rel (.ok t L):=⟨a,w,e,.refl r,h⟩
end
noncomputable def aJ(b:Bool)(s:Sc)(k:Bool->Sc->Prop):Prop:=sE s (k b) (fun s=>b=true->k true s) (fun s=>b=false->k false s) fun J=>True
theorem On{b:Bool}{s:Sc}{k:Bool->Sc->Prop}(h:∀s,k b s):aJ b s k:=HL h (fun s q=>q▸h s) (fun s q=>q▸h s) fun J=>trivial
noncomputable abbrev bl(b:Bool):LV:=sv (.bool b)
noncomputable abbrev il(i:Int):LV:=sv (.int i)
section
variable{α β τ σ ς:Type}{F:Fm}{L:List LC}{w:Wd}{R:Ed σ ς}{rel:Ed τ α}
theorem Vh{H:MH}{a:Nat}{c:Af}(e:H[a]? =some c):B6 (.ref a) H=.ok c H:=by
 show Co H[a]? H=_
 rw[e];rfl
theorem Ap{H:MH}{a:Nat}{c:Af}{f:Af->M α}{r:Mine.R α}(e:H[a]? =some c)(h:f c H=r):bnd (B6 (.ref a)) f H=r:=(Av (Vh e)).trans h
theorem Bs{H:MH}{o:Option α}{x:α}(e:o=some x):Co o H=.ok x H:=by rw[e];rfl
theorem Qw{α β:Type}{R:α->β->Prop}{x:Option α}{y:Option β}{a:α}(h:OR R x y)(e:x=some a):∃b,y=some b/\R a b:=by
 cases h with
 | no=>cases e
 | so q=>cases e;exact⟨_,rfl,q⟩
theorem XD{n:Nat}{i:Int}{xs:List TV}(e:i=(n:Int))(h:n < xs.length)(hl:xs.length<=5000):0<=i/\i<=BR:=by unfold BR;(subst e;exact f4 h hl (by rfl))
theorem OI{H:MH}{c:Prop}[Decidable c]{m m':M α}{r:Mine.R α}(h:c)(e:m H=r):(if c then m else m') H=r:=(congrFun (if_pos h) H).trans e
theorem AW.same{f:ς->M α}{x:σ}{K:Kt τ}{sc:Sc}{t:τ}(hK:∀t L' sc',Sm R rel f x L (.ok t L')->K t L' sc')(h:∀F w s,Rl F L w->R (Gz F L w) w.ρ x s->∃a,f s w.H=.ok a w.H/\rel (Gz F L w) w.ρ t a):K t L sc:=
 hK t L sc fun F w s r hs=>let⟨_,e,q⟩:=h F w s r hs;.same r e q
noncomputable def Te(a:Nat):Tr LV LV:=fun o L sc K J=>bE (a != 3) (oE (rd Ct.i? L o) fun p=>oE (p.rec fun J fs=>look a fs) fun v=>K v L sc)
theorem ZQ(a:Nat):AW AF AF (fun o=>Tv o a) (Te a):=fun o L sc K X hK hX=>
 Hg fun ha=>Ay fun p hp=>Ay fun v hv=>AW.same hK fun F w s r hs=>by
  obtain⟨b,fs,rfl,e1,e2,_⟩:=eS r hs hp
  obtain⟨u,e3,q⟩:=Qw (e2.look (k:=a)) hv
  exact⟨u,Ap e1 (Bs ((EI a fs).trans ((DG (bne_iff_ne.mp ha) fs).symm.trans e3))),q⟩
noncomputable def Ct.x?(c:Ct):Option (List TV):=c.casesOn some some (fun J=>none) (fun J=>none) fun J J=>none
inductive YZ(F:Fm)(L:List LC)(w:Wd)(v:V)(xs:List TV):Prop
 | mk (a:_) (vs:_) (q0:v=.ref a) (q1:(w.H[a]? =some (.list vs)\/w.H[a]? =some (.tup vs))) (q2:Rs (FR (Gz F L w)) xs vs) (q3:xs.length<=5000):YZ F L w v xs
theorem dQ(r:Rl F L w){x:LV}{v:V}{xs:List TV}(h:AF (Gz F L w) w.ρ x v)(e:rd Ct.x? L x=some xs):YZ F L w v xs:=by
 obtain⟨ct,e1,e2⟩:=GR e
 obtain⟨a,rfl,q⟩:=Hz r h e1
 cases ct with
 | lst ys=>cases e2;exact let⟨vs,p,q⟩:=q;⟨a,vs,rfl,.inl (DD p),q.1,q.2⟩
 | tup ys=>cases e2;exact let⟨vs,p,q⟩:=q;⟨a,vs,rfl,.inr (Hd p),q.1,q.2⟩
 | _=>cases e2
noncomputable def UW(o i:LV):Tr Unit LV:=fun J L sc K J=>i.w?.rec
 (oE i.i? fun z=>oE (Io z) fun n=>oE (rd Ct.x? L o) fun xs=>sE sc (fun sc=>oE xs[n]? fun t=>K (.f t) L sc) (fun sc=>∀{t},xs[n]? =some t->K (.f t) L sc) (fun J=>True) fun J=>True)
 fun k=>oE (rd Ct.d? L o) fun kvs=>sE sc (fun sc=>oE (look k kvs) fun t=>K (.f t) L sc) (fun sc=>∀{t},look k kvs=some t->K (.f t) L sc) (fun J=>True) fun J=>True
theorem cR:AW (P2 AF AF) AF (fun p=>W5 p.1 p.2) (fun p L sc K X=>UW p.1 p.2 () L sc K X):=fun p L sc K X hK hX=>by
 have key:∀z n xs t sc,p.2.i? =some z->Io z=some n->rd Ct.x? L p.1=some xs->xs[n]? =some t->K (.f t) L sc:=fun z n xs t sc hz hn hx ht=>AW.same hK fun F w s r hs=>by
  obtain⟨a,vs,e,e1,e2,e3⟩:=dQ r hs.1 hx
  obtain⟨u,e4,q⟩:=e2.get ht
  have hi:=EQ hz hs.2
  obtain⟨s1,s2⟩:=s
  cases e;cases hi
  have hl:=XD (J5 hn) (EK.mp ht).1 e3
  refine⟨u,?_,q⟩
  cases J5 hn
  rcases e1 with e1 | e1
  .exact Ap e1 ((congrFun (if_pos hl) w.H).trans (Bs e4))
  .exact Ap e1 ((congrFun (if_pos hl) w.H).trans (Bs e4))
 have key2:∀k kvs t sc,p.2.w? =some k->rd Ct.d? L p.1=some kvs->look k kvs=some t->K (.f t) L sc:=fun k kvs t sc hz hx ht=>AW.same hK fun F w s r hs=>by
  obtain⟨a,vs,e,e1,e2,e3⟩:=ZP r hs.1 hx
  obtain⟨u,e4,q⟩:=Qw (e2.look (k:=k)) ht
  have hi:=JG hz hs.2
  obtain⟨s1,s2⟩:=s
  cases e;cases hi
  exact⟨u,Ap e1 (Bs ((EI k vs).trans e4)),q⟩
 show UW p.1 p.2 () L sc K X
 unfold UW
 cases hw:p.2.w? with
 | none=>exact Ay fun z hz=>Ay fun n hn=>Ay fun xs hx=>HL (fun sc=>Ay fun t ht=>key z n xs t sc hz hn hx ht) (fun sc t ht=>key z n xs t sc hz hn hx ht) (fun J=>trivial) fun J=>trivial
 | some k=>exact Ay fun kvs hx=>HL (fun sc=>Ay fun t ht=>key2 k kvs t sc hw hx ht) (fun sc t ht=>key2 k kvs t sc hw hx ht) (fun J=>trivial) fun J=>trivial
noncomputable def YD:Tr LV LV:=fun o L sc K J=>oE (rd Ct.l? L o) fun xs=>K (il xs.length) L sc
theorem CU{n m:Nat}(h:n<=5000)(e:m=n):m<=BR:=by unfold BR;exact Nat.le_trans (Nat.le_of_eq ‹_›) (zz ‹_› (by rfl))
theorem cW:AW AF AF TN YD:=fun o L sc K X hK hX=>Ay fun xs hx=>AW.same hK fun F w s r hs=>by
 obtain⟨a,vs,rfl,e1,e2,e3⟩:=O2 r hs hx
 refine⟨.int vs.length,Ap e1 (congrFun (if_pos (CU e3 e2.len)) w.H),?_⟩
 rw[e2.len];exact .s
noncomputable def LV.isN(v:LV):Bool:=v.casesOn (fun t=>t.casesOn (fun v=>v.casesOn true (fun J=>false) (fun J=>false) (fun J=>false) (fun J=>false) (fun J=>false) false) (fun J J=>false) false) fun J=>false
theorem Yn{G:Nat->Af->Prop}{ρ:List Nat}{x:LV}{v:V}(h:AF G ρ x v):decide (v=.none)=x.isN:=by
 cases x with
 | r i=>obtain⟨a,_,rfl⟩:=h;rfl
 | f t=>cases h with
  | s=>cases v<;>rfl
  | n _ _ _=>rfl
  | u=>rfl
noncomputable def QW(neg:Bool):Tr LV LV:=fun v L sc K J=>aJ v.isN sc fun b sc=>K (bl (xor neg b)) L sc
theorem Zx(neg:Bool):AW AF AF (fun x=>ret (.bool (xor neg (decide (x=.none))))) (QW neg):=fun o L sc K X hK hX=>On fun sc=>AW.same hK fun F w s r hs=>⟨_,rfl,by rw[Yn hs];exact .s⟩
noncomputable def X5(neg:Bool)(ws:List Nat):Tr LV LV:=fun v L sc K J=>oE v.w? fun i=>aJ (ws.contains i) sc fun b sc=>K (bl (neg.rec b !b)) L sc
theorem cM(neg:Bool)(ws:List Nat):AW AF AF (fun x=>vW x bad fun i=>ret (.bool (xor neg (ws.contains i)))) (X5 neg ws):=fun o L sc K X hK hX=>Ay fun i hi=>On fun sc=>AW.same hK fun F w s r hs=>by
 cases JG hi hs
 refine⟨_,rfl,?_⟩
 have e:xor neg (ws.contains i)=neg.rec (ws.contains i) !(ws.contains i):=by cases neg<;>cases ws.contains i<;>rfl
 rw[e];exact .s
noncomputable def WT:Tr LV LV:=fun v L sc K J=>oE v.b? fun b=>K (bl !b) L sc
theorem dC:AW AF AF (fun x=>bnd (AG x) fun t=>ret (.bool !t)) WT:=fun o L sc K X hK hX=>Ay fun i hi=>AW.same hK fun F w s r hs=>by
 cases Rw hi hs;exact⟨_,rfl,.s⟩
theorem Sm.of{m m':ς->M α}{x:σ}{out:Oc τ}(h:∀{F w s},R (Gz F L w) w.ρ x s->m s=m' s)(q:Sm R rel m' x L out):Sm R rel m x L out:=fun F w s r hs=>(h hs).symm▸q F w s r hs
theorem bJ{m1 m2:ς×V->M α}{k1 k2:Tr (σ×LV) τ}(h1:AW (P2 R AF) rel m1 k1)(h2:AW (P2 R AF) rel m2 k2):AW (P2 R AF) rel (fun p=>bnd (AG p.2) fun t=>if t then m1 p else m2 p) fun p L sc K X=>oE p.2.b? fun b=>b.rec (k2 p L sc K X) (k1 p L sc K X):=fun p L sc K X hK hX=>Ay fun b hb=>by
 have tr:∀{F:Fm} {w:Wd} {s:ς×V},P2 R AF (Gz F L w) w.ρ p s->bnd (AG s.2) (fun t=>if t=true then m1 s else m2 s)=if b=true then m1 s else m2 s:=fun hs=>by rw[Rw hb hs.2];rfl
 cases b with
 | true=>exact h1 p L sc K X (fun t L' sc' q=>hK t L' sc' (q.of tr)) fun t L' sc' q=>hX t L' sc' (q.of tr)
 | false=>exact h2 p L sc K X (fun t L' sc' q=>hK t L' sc' (q.of tr)) fun t L' sc' q=>hX t L' sc' (q.of tr)
end
section
variable{α β τ σ ς:Type}{F:Fm}{L L':List LC}{w:Wd}{G:Nat->Af->Prop}{ρ:List Nat}
theorem Rn.new{m:M V}{c:Af}{lc:LC}(r:Rl F L w)(hb:lc.bor=false)(e:m w.H=.ok (.ref w.H.length) (w.H++[c]))(hc:∀G' ρ',Le (Gz F L w) G'->w.ρ <+:ρ'->QP G' ρ' (some (dm c)) w.H.length lc):Rn F L w m AF (.ok (.r L.length) (L++[lc])):=
 ⟨_,⟨w.ρ++[w.H.length],w.H++[c]⟩,e,SH r hb hc,w.H.length,by rw[<-r.len,List.getElem?_append_right (Nat.le_refl _),Nat.sub_self];rfl,rfl⟩
theorem Rn.newL{m:M V}{xs:List TV}{vs:List V}(r:Rl F L w)(h:Rs (FR (Gz F L w)) xs vs)(hl:xs.length<=5000)(e:m w.H=.ok (.ref w.H.length) (w.H++[.list vs])):Rn F L w m AF (.ok (.r L.length) (L++[.lst false xs])):=
 .new r rfl e fun J J l J=>⟨vs,rfl,h.mono fun J J=>FR.mono l,hl⟩
noncomputable def LV.r?(v:LV):Option Nat:=v.casesOn (fun J=>none) some
noncomputable def LC.l?(c:LC):Option (Bool×List TV):=c.casesOn (fun b xs=>some (b,xs)) (fun J=>none) (fun J=>none) (fun J J=>none) fun J=>none
theorem Ut{c:LC}{p:Bool×List TV}(e:c.l? =some p):c=.lst p.1 p.2:=by
 cases c with
 | lst b xs=>cases e;rfl
 | _=>cases e
theorem St{x:LV}{v:V}{i:Nat}(e:x.r? =some i)(h:AF G ρ x v):∃a,ρ[i]? =some a/\v=.ref a:=by
 cases x with
 | f t=>cases e
 | r j=>cases e;exact h
theorem GL(r:Rl F L w){i a:Nat}{b:Bool}{xs ys:List TV}{us:List V}(hi:w.ρ[i]? =some a)(hm:L[i]? =some (.lst b xs))(h:Rs (FR (Gz F L w)) ys us)(hl:ys.length<=5000):Nx F L w (L.set i (.lst b ys)) ⟨w.ρ,w.H.set a (.list us)⟩:=
 Jt r hi hm rfl rfl (by rw[List.length_set];exact Nat.le_refl _) (fun J J h=>Fd h) fun l=>⟨us,EW (r.lt i a hi),h.mono fun J J=>FR.mono l,hl⟩
theorem Tn(r:Rl F L w){i a:Nat}{xs ys:List (Nat×TV)}{us:List (Nat×V)}(hi:w.ρ[i]? =some a)(hm:L[i]? =some (.dct xs))(h:Rs (KR (FR (Gz F L w))) ys us)(hl:ys.length<=90):Nx F L w (L.set i (.dct ys)) ⟨w.ρ,w.H.set a (.dictW us)⟩:=
 Jt r hi hm rfl rfl (by rw[List.length_set];exact Nat.le_refl _) (fun J J h=>Fd h) fun l=>⟨us,EW (r.lt i a hi),h.mono (KR.mono fun J J=>FR.mono l),hl⟩
theorem Xp(r:Rl F L w){i a:Nat}{xs ys:List (Int×TV)}{us:List (Int×V)}(hi:w.ρ[i]? =some a)(hm:L[i]? =some (.dci xs))(h:Rs (KR (FR (Gz F L w))) ys us)(hl:ys.length<=90):Nx F L w (L.set i (.dci ys)) ⟨w.ρ,w.H.set a (.dictI us)⟩:=
 Jt r hi hm rfl rfl (by rw[List.length_set];exact Nat.le_refl _) (fun J J h=>Fd h) fun l=>⟨us,EW (r.lt i a hi),h.mono (KR.mono fun J J=>FR.mono l),hl⟩
noncomputable def LC.fr(c:LC):Option TV:=c.casesOn (fun b xs=>b.rec (some (.n .lst xs)) none) (fun kvs=>some (.n (.dct (kvs.map (·.1))) (kvs.map (·.2)))) (fun J=>none) (fun J J=>none) some
noncomputable def bZ(L:List LC)(v:LV):Option (TV×List LC):=v.casesOn (fun t=>some (t,L)) fun i=>(L[i]?).rec none fun c=>c.bor.rec (c.fr.rec none fun t=>some (t,L.set i (.fz t))) (some (.u,L))
theorem Mr{R:TV->V->Prop}{as:List (Nat×TV)}{bs:List (Nat×V)}(h:Rs (KR R) as bs):bs=(as.map (·.1)).zip (bs.map (·.2))/\Rs R (as.map (·.2)) (bs.map (·.2)):=by
 induction h with
 | nil=>exact⟨rfl,.nil⟩
 | @cons a b as bs x _ ih=>
  refine⟨?_,.cons x.2 ih.2⟩
  show b::bs=(a.1,b.2)::_
  rw[x.1];exact congrArg (List.cons b) ih.1
theorem aB{o:Option Af}{a:Nat}{c:LC}{t:TV}(h:QP G ρ o a c)(e:c.fr=some t)(hG:∀x,o=some x->G a x):FR G t (.ref a):=by
 cases c with
 | lst b xs=>cases b with
  | false=>cases e;exact let⟨vs,e,h,l⟩:=h;.n (k:= .lst) (hG _ e) l (IF h)
  | true=>cases e
 | dct kvs=>
  cases e
  obtain⟨q,e,h,l⟩:=h
  obtain⟨e2,h2⟩:=Mr h
  exact .n (k:= .dct _) (hG _ (e.trans (congrArg (fun x=>some (Af.dictW x)) e2))) (by rw[List.length_map];exact l) (IF h2)
 | fz t=>cases e;exact h
 | _=>cases e
theorem Qu(r:Rl F L w){x:LV}{v:V}{p:TV×List LC}(h:AF (Gz F L w) w.ρ x v)(e:bZ L x=some p):Nx F L w p.2 w/\FR (Gz F p.2 w) p.1 v:=by
 cases x with
 | f t=>cases e;exact⟨.refl r,h⟩
 | r i=>
  obtain⟨a,h1,rfl⟩:=h
  obtain⟨c,e1,e⟩:=ob e
  cases hb:c.bor with
  | true=>rw[hb]at e;cases e;exact⟨.refl r,.u⟩
  | false=>
   rw[hb]at e
   obtain⟨t,e2,e⟩:=ob e
   cases e
   exact Ro r h1 e1 hb fun G' l hG=>aB ((r.cells i a c h1 e1).mono l (List.prefix_refl _)) e2 hG
noncomputable def fC(fs:List (Nat×LV)):List LC->Option (List (Nat×TV)×List LC):=fs.rec (fun L=>some ([],L)) fun p J ih L=>p.rec fun a v=>(bZ L v).rec none fun q=>q.rec fun t L=>(ih L).rec none fun s=>s.rec fun ts L=>some ((a,t)::ts,L)
theorem Xs{fs:List (Nat×LV)}:∀{L:List LC} {q:List (Nat×V)} {p:List (Nat×TV)×List LC},Rl F L w->Rs (KR (AF (Gz F L w) w.ρ)) fs q->fC fs L=some p->Nx F L w p.2 w/\Rs (KR (FR (Gz F p.2 w))) p.1 q:=by
 induction fs with
 | nil=>intro L q p r h e;cases e;cases h;exact⟨.refl r,.nil⟩
 | cons f fs ih=>
  intro L q p r h e
  cases h with
  | cons x y=>
   obtain⟨u,e1,e⟩:=ob e
   obtain⟨s,e2,e⟩:=ob e
   cases e
   obtain⟨n1,f1⟩:=Qu r x.2 e1
   obtain⟨n2,f2⟩:=ih n1.r (y.mono (KR.mono fun J J=>AF.mono n1.l n1.p)) e2
   exact⟨n1.trans n2,.cons ⟨x.1,FR.mono n2.l f1⟩ f2⟩
noncomputable def LC.i?(c:LC):Option (Dz×List (Nat×LV)):=c.casesOn (fun J J=>none) (fun J=>none) (fun J=>none) (fun k fs=>some (k,fs)) fun J=>none
noncomputable def fz(L:List LC)(v:LV):Option (TV×List LC):=v.casesOn (fun t=>some (t,L)) fun i=>(L[i]?).rec none fun c=>c.i?.rec (bZ L (.r i)) fun p=>p.rec fun k fs=>(fC fs L).rec none fun q=>q.rec fun ts L=>(L[i]?).rec none fun c'=>c'.bor.rec (some (.n (.ins k (ts.map (·.1))) (ts.map (·.2)),L.set i (.fz (.n (.ins k (ts.map (·.1))) (ts.map (·.2)))))) none
theorem Gq(r:Rl F L w){x:LV}{v:V}{p:TV×List LC}(h:AF (Gz F L w) w.ρ x v)(e:fz L x=some p):Nx F L w p.2 w/\FR (Gz F p.2 w) p.1 v:=by
 cases x with
 | f t=>cases e;exact⟨.refl r,h⟩
 | r i=>
  obtain⟨c,e1,e⟩:=ob e
  cases hc:c.i? with
  | none=>rw[hc]at e;exact Qu r h e
  | some k=>
   rw[hc]at e
   obtain⟨a,h1,rfl⟩:=h
   obtain⟨q,e2,e⟩:=ob e
   obtain⟨c',e3,e⟩:=ob e
   cases hb:c'.bor with
   | true=>rw[hb]at e;cases e
   | false=>
    rw[hb]at e
    cases e
    cases c with
    | ins cl fs=>
     cases hc
     obtain⟨vs,g1,g2,g3⟩:=r.cells i a _ h1 e1
     obtain⟨n1,f1⟩:=Xs r g2 e2
     obtain⟨u1,u2⟩:=Mr f1
     have hl:q.1.length<=90:=by rw[<-f1.len,g2.len];exact g3
     obtain⟨n2,f2⟩:=Ro n1.r h1 e3 hb fun G' l hG=> .n (k:= .ins cl _) (hG _ (g1.trans (congrArg (fun x=>some (Af.inst cl x)) u1))) (by rw[List.length_map];exact hl) (IF (u2.mono fun J J=>FR.mono l))
     exact⟨n1.trans n2,f2⟩
    | _=>cases hc
noncomputable def aG(vs:List LV):List LC->Option (List TV×List LC):=vs.rec (fun L=>some ([],L)) fun v J ih L=>(fz L v).rec none fun q=>q.rec fun t L=>(ih L).rec none fun s=>s.rec fun ts L=>some (t::ts,L)
theorem K7{vs:List LV}:∀{L:List LC} {q:List V} {p:List TV×List LC},Rl F L w->Rs (AF (Gz F L w) w.ρ) vs q->aG vs L=some p->Nx F L w p.2 w/\Rs (FR (Gz F p.2 w)) p.1 q:=by
 induction vs with
 | nil=>intro L q p r h e;cases e;cases h;exact⟨.refl r,.nil⟩
 | cons f fs ih=>
  intro L q p r h e
  cases h with
  | cons x y=>
   obtain⟨u,e1,e⟩:=ob e
   obtain⟨s,e2,e⟩:=ob e
   cases e
   obtain⟨n1,f1⟩:=Gq r x e1
   obtain⟨n2,f2⟩:=ih n1.r (y.mono fun J J=>AF.mono n1.l n1.p) e2
   exact⟨n1.trans n2,.cons (FR.mono n2.l f1) f2⟩
end
section
variable{α β τ σ ς:Type}{F:Fm}{L L':List LC}{w:Wd}{G:Nat->Af->Prop}{ρ:List Nat}
noncomputable abbrev RU:Ed Unit Unit:=fun J J J J=>True
noncomputable abbrev newL(L:List LC)(xs:List TV)(sc:Sc)(K:Kt LV):Prop:=K (.r L.length) (L++[.lst false xs]) sc
noncomputable def Lk:Tr LV LV:=fun o L sc K J=>oE (rd Ct.l? L o) fun xs=>newL L xs sc K
theorem U7:AW AF AF Pj Lk:=fun o L sc K X hK hX=>Ay fun xs hx=>hK _ _ _ fun F w s r hs=>by
 obtain⟨a,vs,rfl,e1,e2,e3⟩:=O2 r hs hx
 exact .newL r e2 e3 (Ap e1 (congrFun (if_pos (CU e3 e2.len)) w.H))
noncomputable def KU:Tr LV LV:=fun o L sc K J=>oE (rd Ct.d? L o) fun kvs=>K (.r L.length) (L++[.dct kvs]) sc
theorem VG:AW AF AF Oz KU:=fun o L sc K X hK hX=>Ay fun xs hx=>hK _ _ _ fun F w s r hs=>by
 obtain⟨a,vs,rfl,e1,e2,e3⟩:=ZP r hs hx
 exact .new r rfl (Ap e1 (congrFun (if_pos (by rw[e2.len];exact Nat.lt_of_le_of_lt e3 (by decide))) w.H)) fun G' ρ' l J=>⟨vs,rfl,e2.mono (KR.mono fun J J=>FR.mono l),e3⟩
noncomputable def Xz:Tr LV LV:=fun o L sc K J=>oE o.i? fun i=>0<=i->i<=100000->K (sv (.dec i)) L sc
theorem cP:AW AF AF UH Xz:=fun o L sc K X hK hX=>Ay fun i hi h0 h1=>AW.same hK fun F w s r hs=>by
 cases EQ hi hs;exact⟨_,congrFun (if_pos ⟨h0,h1⟩) w.H,.s⟩
noncomputable def aP(a b:LV):Tr Unit LV:=fun J L sc K J=>oE a.i? fun x=>oE b.i? fun y=>tE (y > x) sc fun b sc=>K (il (b.rec x y)) L sc
theorem dN:AW (P2 AF AF) AF (fun p=>X3 p.1 p.2) (fun p=>aP p.1 p.2 ()):=fun p L sc K X hK hX=>Ay fun x hx=>Ay fun y hy=>ZI fun sc=>AW.same hK fun F w s r hs=>by
 obtain⟨s1,s2⟩:=s
 cases EQ hx hs.1;cases EQ hy hs.2
 refine⟨_,rfl,?_⟩
 by_cases h:y > x
 .rw [if_pos h,decide_eq_true h];exact .s
 .rw [if_neg h,decide_eq_false h];exact .s
noncomputable def TQ:Tr LV LV:=fun o L sc K J=>oE (rd Ct.i? L o) fun p=>p.1.casesOn True (K (bl true) L sc)
theorem Y9:AW AF AF Jb TQ:=fun o L sc K X hK hX=>Ay fun p hp=>by
 obtain⟨c,fs⟩:=p
 cases c with
 | null=>trivial
 | vector=>exact AW.same hK fun F w s r hs=>let⟨a,fs,e,e1,_,_,_⟩:=eS r hs hp;⟨_,e▸Ap e1 rfl,.s⟩
noncomputable def hS(v:V)(t:Ty):Option Bool:=v.casesOn none (fun J=>none) (fun J=>t.casesOn (some false) (some true) none) (fun J=>t.casesOn (some true) (some false) none) (fun J=>none) (fun J=>none) none
noncomputable def Ct.ty(c:Ct)(t:Ty):Option Bool:=c.casesOn (fun J=>t.casesOn none none (some true)) (fun J=>t.casesOn none none (some false)) (fun J=>none) (fun J=>none) fun J J=>t.casesOn (some false) none none
noncomputable def bO(t:Ty):Tr LV LV:=fun v L sc K J=>v.s?.rec (oE (rd (fun c=>c.ty t) L v) fun b=>K (bl b) L sc) fun x=>oE (hS x t) fun b=>K (bl b) L sc
section
variable{H:MH}{a:Nat}
theorem Th{c:Af}{t:Ty}{b:Bool}(e:H[a]? =some c)(h:cH t c=some b):Os (.ref a) t H=.ok (.bool b) H:=Ap e (Av (Bs h))
end
theorem gF(t:Ty):AW AF AF (fun v=>Os v t) (bO t):=fun v L sc K X hK hX=>by
 unfold bO
 cases hv:v.s? with
 | some x=>
  exact Ay fun b hb=>AW.same hK fun F w s r hs=>by
   rw[N9 hv hs]
   cases x<;>cases t<;>cases hb<;>exact⟨_,rfl,.s⟩
 | none=>
  exact Ay fun b hb=>AW.same hK fun F w s r hs=>by
   obtain⟨ct,e1,e2⟩:=GR hb
   obtain⟨a,rfl,q⟩:=Hz r hs e1
   refine⟨.bool b,?_,.s⟩
   cases ct with
   | lst xs=>obtain⟨vs,q,_⟩:=q;exact Th (DD q) e2
   | tup xs=>obtain⟨vs,q,_⟩:=q;exact Th (Hd q) e2
   | ins c xs=>obtain⟨vs,q,_⟩:=q;obtain⟨fs,q,_⟩:=HZ q;exact Th q e2
   | dct xs=>cases e2
   | dci xs=>cases e2
noncomputable def Qs:Tr LV Unit:=fun o L sc K J=>oE (rd Ct.l? L o) fun J=>K () L sc
theorem Wg:AW AF RU Qn Qs:=fun o L sc K X hK hX=>Ay fun xs hx=>AW.same hK fun F w s r hs=>by
 obtain⟨a,vs,rfl,e1,_⟩:=O2 r hs hx
 exact⟨(),Ap e1 rfl,trivial⟩
noncomputable def Sy:Tr LV Unit:=fun o L sc K J=>oE (rd Ct.d? L o) fun J=>K () L sc
theorem VZ:AW AF RU VC Sy:=fun o L sc K X hK hX=>Ay fun xs hx=>AW.same hK fun F w s r hs=>by
 obtain⟨a,vs,rfl,e1,_⟩:=ZP r hs hx
 exact⟨(),Ap e1 rfl,trivial⟩
noncomputable def Ww:Tr LV Unit:=fun o L sc K J=>oE o.w? fun J=>K () L sc
theorem Z0:AW AF RU XT Ww:=fun o L sc K X hK hX=>Ay fun xs hx=>AW.same hK fun F w s r hs=>by
 cases JG hx hs;exact⟨(),rfl,trivial⟩
noncomputable abbrev RB:Ed Bool Bool:=fun J J a b=>a=b
noncomputable def Ct.tp(c:Ct):Option Bool:=c.casesOn (fun J=>some false) (fun J=>some true) (fun J=>none) (fun J=>none) fun J J=>none
noncomputable def We:Tr LV Bool:=fun o L sc K J=>oE (rd Ct.tp L o) fun b=>K b L sc
theorem aA:AW AF RB Xw We:=fun o L sc K X hK hX=>Ay fun b hb=>AW.same hK fun F w s r hs=>by
 obtain⟨ct,e1,e2⟩:=GR hb
 obtain⟨a,rfl,q⟩:=Hz r hs e1
 cases ct with
 | lst xs=>cases e2;exact let⟨vs,q,_⟩:=q;⟨false,Ap (DD q) rfl,rfl⟩
 | tup xs=>cases e2;exact let⟨vs,q,_⟩:=q;⟨true,Ap (Hd q) rfl,rfl⟩
 | _=>cases e2
noncomputable def DM(k:Nat)(t:TV):Bool:=t.casesOn (J3 k) (fun J J=>false) false
noncomputable def VA(t:TV):Bool:=t.casesOn wn (fun J J=>false) false
noncomputable def XK(t:TV):Bool:=t.casesOn Rv (fun J J=>false) false
theorem K8{k:Nat}{t:TV}{v:V}(h:FR G t v):DM k t=J3 k v:=by
 cases h with
 | s=>rfl
 | n=>exact(decide_eq_false fun h=>by cases h).symm
 | u=>exact(decide_eq_false fun h=>by cases h).symm
theorem Nq{t:TV}{v:V}(h:FR G t v):VA t=wn v:=by
 cases h<;>rfl
theorem Va{t:TV}{v:V}(h:FR G t v):XK t=Rv v:=by
 cases h<;>rfl
theorem K9{f:TV->Bool}{g:V->Bool}(hf:∀{t v},FR G t v->f t=g v){xs:List TV}{vs:List V}(h:Rs (FR G) xs vs):vs.all g=xs.all f:=by
 induction h with
 | nil=>rfl
 | cons x _ ih=>rw[List.all_cons,List.all_cons,hf x,ih]
theorem XO{f:TV->Bool}{g:V->Bool}(hf:∀{t v},FR G t v->f t=g v){xs:List TV}{vs:List V}(h:Rs (FR G) xs vs):vs.any g=xs.any f:=by
 induction h with
 | nil=>rfl
 | cons x _ ih=>rw[List.any_cons,List.any_cons,hf x,ih]
theorem SM{f:TV->Bool}{g:V->Bool}(hf:∀{t v},FR G t v->f t=g v){xs:List TV}{vs:List V}(h:Rs (FR G) xs vs):vs.findIdx? g=xs.findIdx? f:=by
 induction h with
 | nil=>rfl
 | cons x _ ih=>rw[List.findIdx?_cons,List.findIdx?_cons,hf x,ih]
noncomputable def bP(x c:LV)(L:List LC)(sc:Sc)(k:Bool->Sc->Prop):Prop:=x.w?.rec
 (oE x.i? fun i=>oE (rd Ct.e? L c) fun kvs=>aJ (look i kvs).isSome sc k)
 fun j=>(rd Ct.x? L c).rec (oE (rd Ct.d? L c) fun kvs=>aJ (look j kvs).isSome sc k) fun xs=>sE sc (fun sc=>bE (xs.all VA) (k (xs.any (DM j)) sc)) (fun sc=>xs.all VA=true->xs.any (DM j)=true->k true sc) (fun sc=>xs.all VA=true->xs.any (DM j)=false->k false sc) fun J=>True
theorem JO{α β:Type}{R:α->β->Prop}{x:Option α}{y:Option β}(h:OR R x y):y.isSome=x.isSome:=by
 cases h<;>rfl
section
variable{H:MH}{a:Nat}
theorem Up{xs:List V}{k:Nat}(e:H[a]? =some (.list xs))(h:xs.all wn=true):RW (.w k) (.ref a) H=.ok (xs.any (J3 k)) H:=Ap e (congrFun (if_pos h) H)
theorem X8{xs:List V}{k:Nat}(e:H[a]? =some (.tup xs))(h:xs.all wn=true):RW (.w k) (.ref a) H=.ok (xs.any (J3 k)) H:=Ap e (congrFun (if_pos h) H)
theorem Vy{xs:List (Nat×V)}{k:Nat}(e:H[a]? =some (.dictW xs)):RW (.w k) (.ref a) H=.ok (Do k xs).isSome H:=Ap e rfl
theorem S9{xs:List (Int×V)}{k:Int}(e:H[a]? =some (.dictI xs)):RW (.int k) (.ref a) H=.ok (Ft k xs).isSome H:=Ap e rfl
end
theorem eZ{x c:LV}{sc:Sc}{k:Bool->Sc->Prop}(h:∀b sc,(∀F w x' c',Rl F L w->AF (Gz F L w) w.ρ x x'->AF (Gz F L w) w.ρ c c'->RW x' c' w.H=.ok b w.H)->k b sc):bP x c L sc k:=by
 have key:∀{xs:List TV} {j:Nat} {sc:Sc},x.w? =some j->rd Ct.x? L c=some xs->xs.all VA=true->k (xs.any (DM j)) sc:=fun {xs j sc} hw hx ha=>h _ _ fun F w x' c' r h1 h2=>by
  cases JG hw h1
  obtain⟨a,vs,rfl,e1,e2,_⟩:=dQ r h2 hx
  have e3:=(K9 Nq e2).trans ha
  rw[<-XO K8 e2]
  exact e1.elim (fun e1=>Up e1 e3) fun e1=>X8 e1 e3
 unfold bP
 cases hw:x.w? with
 | none=>
  exact Ay fun i hi=>Ay fun kvs hk=>On fun sc=>h _ _ fun F w x' c' r h1 h2=>by
   cases EQ hi h1
   obtain⟨a,vs,rfl,e1,e2,_⟩:=gA r h2 hk
   rw[S9 e1,Ml,JO e2.look]
 | some j=>
  show Option.rec _ _ (rd Ct.x? L c)
  cases hx:rd Ct.x? L c with
  | none=>
   exact Ay fun kvs hk=>On fun sc=>h _ _ fun F w x' c' r h1 h2=>by
    cases JG hw h1
    obtain⟨a,vs,rfl,e1,e2,_⟩:=ZP r h2 hk
    rw[Vy e1,EI,JO e2.look]
  | some xs=>exact HL (fun sc=>Hg fun h=>key hw hx h) (fun sc h1 h2=>h2▸key hw hx h1) (fun sc h1 h2=>h2▸key hw hx h1) fun J=>trivial
end
section
variable{α β τ σ ς:Type}{F:Fm}{L L':List LC}{w:Wd}{G:Nat->Af->Prop}{ρ:List Nat}
noncomputable abbrev LL:Ed (LV×LV) (V×V):=P2 AF AF
noncomputable def Pb(a b:LV):Tr Unit LV:=fun J L sc K J=>oE a.w? fun i=>oE b.w? fun j=>sE sc (fun sc=>oE (Gd i j) fun t=>K (bl t) L sc) (fun sc=>∀{t},Gd i j=some t->K (bl t) L sc) (fun J=>True) fun J=>True
theorem T0:AW LL AF (fun p=>Kn Gd p.1 p.2) (fun p=>Pb p.1 p.2 ()):=fun p L sc K X hK hX=>by
 have key:∀{i j t sc},p.1.w? =some i->p.2.w? =some j->Gd i j=some t->K (bl t) L sc:=fun {i j t sc} hi hj ht=>AW.same hK fun F w s r hs=>by
  obtain⟨s1,s2⟩:=s
  cases JG hi hs.1;cases JG hj hs.2
  exact⟨.bool t,Av (Bs ht),.s⟩
 exact Ay fun i hi=>Ay fun j hj=>HL (fun sc=>Ay fun t ht=>key hi hj ht) (fun sc t ht=>key hi hj ht) (fun J=>trivial) fun J=>trivial
noncomputable def Sf(o:LV)(tp:Bool)(x:LV):Tr Unit LV:=fun J L sc K J=>oE x.w? fun k=>oE (rd (fun c=>tp.rec c.l? c.t?) L o) fun xs=>sE sc (fun sc=>bE (xs.all VA) (oE (xs.findIdx? (DM k)) fun(i:Nat)=>K (il (i:Int)) L sc)) (fun sc=>xs.all VA=true->∀{i:Nat},xs.findIdx? (DM k)=some i->K (il i) L sc) (fun J=>True) fun J=>True
theorem XY:AW (P2 (P2 AF RB) AF) AF (fun p=>NO p.1.2 p.1.1 p.2) (fun p=>Sf p.1.1 p.1.2 p.2 ()):=fun p L sc K X hK hX=>by
 have key:∀{k i:Nat} {xs sc},p.2.w? =some k->rd (fun c=>p.1.2.rec c.l? c.t?) L p.1.1=some xs->xs.all VA=true->xs.findIdx? (DM k)=some i->K (il i) L sc:=fun {k i xs sc} hw hx ha ht=>AW.same hK fun F w s r hs=>by
  obtain⟨⟨s1,s2⟩,s3⟩:=s
  obtain⟨⟨p1,p2⟩,p3⟩:=p
  cases JG hw hs.2
  cases hs.1.2
  refine⟨.int i,?_,.s⟩
  cases s2 with
  | false=>
   obtain⟨a,vs,e,e1,e2,e3⟩:=O2 r hs.1.1 hx
   cases e
   exact Ap e1 (OI ⟨(K9 Nq e2).trans ha,CU e3 e2.len⟩ (Av (Bs ((SM K8 e2).trans ht))))
  | true=>
   obtain⟨a,vs,e,e1,e2,e3⟩:=fM r hs.1.1 hx
   cases e
   exact Ap e1 (OI ⟨(K9 Nq e2).trans ha,CU e3 e2.len⟩ (Av (Bs ((SM K8 e2).trans ht))))
 exact Ay fun k hk=>Ay fun xs hx=>HL (fun sc=>Hg fun ha=>Ay fun t ht=>key hk hx ha ht) (fun sc ha t ht=>key hk hx ha ht) (fun J=>trivial) fun J=>trivial
noncomputable def Xn(o k d:LV):Tr Unit LV:=fun J L sc K J=>oE k.w? fun i=>oE (rd Ct.d? L o) fun kvs=>sE sc (fun sc=>(look i kvs).rec (K d L sc) fun t=>K (.f t) L sc) (fun sc=>∀{t},look i kvs=some t->K (.f t) L sc) (fun sc=>look i kvs=none->K d L sc) fun J=>True
theorem ZM:AW (P2 LL AF) AF (fun p=>PH p.1.1 p.1.2 p.2) (fun p=>Xn p.1.1 p.1.2 p.2 ()):=fun p L sc K X hK hX=>by
 have ev:∀{i kvs F w s},p.1.2.w? =some i->rd Ct.d? L p.1.1=some kvs->Rl F L w->P2 LL AF (Gz F L w) w.ρ p s->∃q,OR (FR (Gz F L w)) (look i kvs) q/\PH s.1.1 s.1.2 s.2 w.H=.ok (q.getD s.2) w.H:=fun {i kvs F w s} hi hk r hs=>by
  obtain⟨⟨s1,s2⟩,s3⟩:=s
  cases JG hi hs.1.2
  obtain⟨a,vs,e,e1,e2,e3⟩:=ZP r hs.1.1 hk
  cases e
  exact⟨_,e2.look,Ap e1 (by rw[<-EI];rfl)⟩
 have k1:∀{i kvs t sc},p.1.2.w? =some i->rd Ct.d? L p.1.1=some kvs->look i kvs=some t->K (.f t) L sc:=fun hi hk ht=>AW.same hK fun F w s r hs=>by
  obtain⟨q,o,e⟩:=ev hi hk r hs
  obtain⟨b,rfl,q⟩:=Qw o ht
  exact⟨b,e,q⟩
 have k2:∀{i kvs sc},p.1.2.w? =some i->rd Ct.d? L p.1.1=some kvs->look i kvs=none->K p.2 L sc:=fun hi hk ht=>AW.same hK fun F w s r hs=>by
  obtain⟨q,o,e⟩:=ev hi hk r hs
  rw[ht]at o
  cases o
  exact⟨s.2,e,hs.2⟩
 refine Ay fun i hi=>Ay fun kvs hk=>HL (fun sc=> ?_) (fun sc t ht=>k1 hi hk ht) (fun J ht=>k2 hi hk ht) fun J=>trivial
 cases h:look i kvs with
 | none=>exact k2 hi hk h
 | some t=>exact k1 hi hk h
noncomputable def ZW(L:List LC)(o:LV)(k:Nat->Bool->List TV->Prop):Prop:=oE o.r? fun i=>oE (L[i]?) fun c=>oE c.l? fun p=>p.rec (k i)
theorem OH{o:LV}{k:Nat->Bool->List TV->Prop}(h:∀i b xs,o.r? =some i->L[i]? =some (.lst b xs)->k i b xs):ZW L o k:=Ay fun i hi=>Ay fun c hc=>Ay fun p hp=>h i p.1 p.2 hi (hc.trans (congrArg some (Ut hp)))
inductive Q7(F:Fm)(L:List LC)(w:Wd)(i:Nat)(xs:List TV)(v:V):Prop
 | mk (a:_) (vs:_) (q0:v=.ref a) (q1:w.ρ[i]? =some a) (q2:w.H[a]? =some (.list vs)) (q3:Rs (FR (Gz F L w)) xs vs) (q4:xs.length<=5000):Q7 F L w i xs v
theorem OU(r:Rl F L w){i:Nat}{b:Bool}{xs:List TV}{o:LV}{v:V}(hi:o.r? =some i)(hm:L[i]? =some (.lst b xs))(h:AF (Gz F L w) w.ρ o v):Q7 F L w i xs v:=by
 obtain⟨a,e,rfl⟩:=St hi h
 exact let⟨vs,e1,e2⟩:=r.cells i a _ e hm;⟨a,vs,rfl,e,DD e1,e2.1,e2.2⟩
theorem Ie{H:MH}{a:Nat}{c:Af}{f:Unit->M α}{r:Mine.R α}(h:f () (H.set a c)=r):bnd (D0 (.ref a) c) f H=r:=h
noncomputable def YG:Tr LV LV:=fun o L sc K J=>ZW L o fun i b xs=>∀{ys z},xs=ys++[.s (.int z)]->xs.all XK=true->K (il z) (L.set i (.lst b ys)) sc
theorem eL:AW AF AF Ul YG:=fun o L sc K X hK hX=>OH fun i b xs hi hm ys z hx ha=>hK _ _ _ fun F w s r hs=>by
 obtain⟨a,vs,rfl,e,e1,e2,e3⟩:=OU r hi hm hs
 subst hx
 obtain⟨us,u,rfl,h1,h2⟩:=e2.snoc
 cases h2
 refine⟨.int z,⟨w.ρ,w.H.set a (.list us)⟩,Ap e1 (OI ⟨CU e3 e2.len,(K9 Va e2).trans ha⟩ ((Av (Bs List.getLast?_concat)).trans ?_)),GL r e hm h1 (by rw[C2]at e3;exact Nat.le_trans (Nat.le_add_right _ _) e3),.s⟩
 rw[List.dropLast_concat];rfl
noncomputable def Yu:Tr LV LV:=fun o L sc K J=>ZW L o fun i b xs=>K (sv .none) (L.set i (.lst b xs.reverse)) sc
theorem eR:AW AF AF Gv Yu:=fun o L sc K X hK hX=>OH fun i b xs hi hm=>hK _ _ _ fun F w s r hs=>by
 obtain⟨a,vs,rfl,e,e1,e2,e3⟩:=OU r hi hm hs
 exact⟨.none,⟨w.ρ,w.H.set a (.list vs.reverse)⟩,Ap e1 (congrFun (if_pos (CU e3 e2.len)) w.H),GL r e hm e2.rev (by rw[List.length_reverse];exact e3),.s⟩
noncomputable def Xg(L:List LC)(v:LV)(k:TV->List LC->Prop):Prop:=oE (fz L v) fun p=>p.rec k
noncomputable def ZU(o v:LV):Tr Unit LV:=fun J L sc K J=>Xg L v fun t L=>ZW L o fun i b xs=>Nat.lt xs.length 5000->K (sv .none) (L.set i (.lst b (xs++[t]))) sc
theorem cI:AW LL AF (fun p=>Ib p.1 p.2) (fun p=>ZU p.1 p.2 ()):=fun p L sc K X hK hX=>Ay fun q hq=>OH fun i b xs hi hm hl=>hK _ _ _ fun F w s r hs=>by
 obtain⟨s1,s2⟩:=s
 obtain⟨n,f⟩:=Gq r hs.2 hq
 obtain⟨a,vs,e0,e,e1,e2,e3⟩:=OU n.r hi hm (AF.mono n.l n.p hs.1)
 cases e0
 exact⟨.none,⟨w.ρ,w.H.set a (.list (vs++[s2]))⟩,Ap e1 (congrFun (if_pos (CU e3 e2.len)) w.H),n.trans (GL n.r e hm (e2.app (.cons f .nil)) (by rw[C2];exact hl)),.s⟩
noncomputable def XG(o v:LV):Tr Unit LV:=fun J L sc K J=>oE (rd Ct.l? L v) fun ys=>ZW L o fun i b xs=>bE (v.r?.rec true fun j=> !Nat.beq i j) (xs.length+ys.length<=5000->K (sv .none) (L.set i (.lst b (xs++ys))) sc)
theorem YX{a:Nat}{i:Nat}{c:LC}{t:TV}(hi:w.ρ[i]? =some a)(hm:L[i]? =some c)(hc:c.mut=true)(h:FR (Gz F L w) t (.ref a))(ht:t.ct≠none):False:=by
 cases h with
 | s=>exact ht rfl
 | u=>exact ht rfl
 | n h _ _=>exact h.1 (.inr ⟨i,c,hi,hm,hc⟩)
theorem ZV:AW LL AF (fun p=>CI p.1 p.2) (fun p=>XG p.1 p.2 ()):=fun p L sc K X hK hX=>Ay fun ys hy=>OH fun i b xs hi hm=>Hg fun hb hl=>hK _ _ _ fun F w s r hs=>by
 obtain⟨s1,s2⟩:=s
 obtain⟨a,vs,e0,e,e1,e2,e3⟩:=OU r hi hm hs.1
 obtain⟨a2,us,e5,f1,f2,f3⟩:=O2 r hs.2 hy
 cases e0;cases e5
 have ne:a≠a2:=fun h=>by
  subst h
  obtain⟨p1,p2⟩:=p
  cases p2 with
  | f t=>exact YX e hm rfl hs.2 fun h=>by obtain⟨ct,c1,c2⟩:=GR hy;cases h.symm.trans c1
  | r j=>
   obtain⟨a',q1,q2⟩:=hs.2
   cases q2
   cases r.nd i j a e q1
   have hb:(!Nat.beq i i)=true:=hb
   rw[Nat.beq_eq.mpr rfl]at hb
   cases hb
 refine⟨.none,⟨w.ρ,w.H.set a (.list (vs++us))⟩,?_,GL r e hm (e2.app f2) (by rw[C2];exact hl),.s⟩
 show CI (.ref a) (.ref a2) w.H=_
 unfold CI
 rw[if_neg fun h=>ne (V.ref.inj h)]
 exact Ap e1 (Ap f1 (OI (by rw[e2.len,f2.len];exact Nat.le_trans hl (by decide)) rfl))
end
section
variable{α β τ σ ς:Type}{F:Fm}{L L':List LC}{w:Wd}{G:Nat->Af->Prop}{ρ:List Nat}{H:MH}
noncomputable def Lw(o k:LV):Tr Unit LV:=fun J L sc K J=>oE k.i? fun z=>oE (Io z) fun n=>oE (rd Ct.l? L o) fun xs=>Nat.le n BR->newL L (xs.drop n) sc K
theorem QY:AW LL AF (fun p=>cutFrom p.1 p.2) (fun p=>Lw p.1 p.2 ()):=fun p L sc K X hK hX=>Ay fun z hz=>Ay fun n hn=>Ay fun xs hx hl=>hK _ _ _ fun F w s r hs=>by
 obtain⟨s1,s2⟩:=s
 cases EQ hz hs.2
 cases J5 hn
 obtain⟨a,vs,e,e1,e2,e3⟩:=O2 r hs.1 hx
 cases e
 exact .newL r (e2.drop n) (by rw[List.length_drop];exact Nat.le_trans (Nat.sub_le ..) e3) (Ap e1 (congrFun (if_pos ⟨Int.natCast_nonneg n,Int.ofNat_le.mpr hl,CU e3 e2.len⟩) w.H))
noncomputable def Q2(Aa:List Int)(o k:LV):Tr Unit LV:=fun J L sc K J=>oE k.i? fun z=>(rd Ct.l? L o).rec (o=sv .ext->z=40->newL L ((Aa.take 40).map fun i=> .s (.int i)) sc K) fun xs=>oE (Io z) fun n=>Nat.le n BR->newL L (xs.take n) sc K
theorem OK:∀{is:List Int},Rs (FR G) (is.map fun i=> .s (.int i)) (is.map .int)
 | []=> .nil
 | _::_=> .cons .s OK
theorem W3(Aa:List Int):AW LL AF (fun p=>cutTo Aa p.1 p.2) (fun p=>Q2 Aa p.1 p.2 ()):=fun p L sc K X hK hX=>Ay fun z hz=>by
 cases hx:rd Ct.l? L p.1 with
 | none=>
  intro ho hz0
  exact hK _ _ _ fun F w s r hs=>by
   obtain⟨s1,s2⟩:=s
   obtain⟨p1,p2⟩:=p
   cases EQ hz hs.2
   cases ho
   cases hz0
   have h1:=hs.1
   cases h1
   exact .newL r OK (by rw[List.length_map,List.length_take];exact Nat.le_trans (Nat.min_le_left ..) (by decide)) rfl
 | some xs=>
  refine Ay fun n hn hl=>hK _ _ _ fun F w s r hs=> ?_
  obtain⟨s1,s2⟩:=s
  cases EQ hz hs.2
  cases J5 hn
  obtain⟨a,vs,e,e1,e2,e3⟩:=O2 r hs.1 hx
  cases e
  exact .newL r (e2.take n) (by rw[List.length_take];exact Nat.le_trans (Nat.min_le_right ..) e3) (Ap e1 (congrFun (if_pos ⟨Int.natCast_nonneg n,Int.ofNat_le.mpr hl,CU e3 e2.len⟩) w.H))
noncomputable def Ug(op:U8)(a b:LV):Tr Unit LV:=fun J L sc K J=>a.i?.rec
 (oE (rd Ct.l? L a) fun xs=>b.i?.rec (op.casesOn (oE (rd Ct.l? L b) fun ys=>xs.length+ys.length<=5000->newL L (xs++ys) sc K) True True True True)
  fun z=>op.casesOn True True (xs.casesOn True fun x r=>r.casesOn (∀{n:Nat},z=(n:Int)->n<=1000->newL L (List.replicate n x) sc K) fun J J=>True) True True)
 fun x=>oE b.i? fun y=>op.casesOn (K (il (x+y)) L sc) (K (il (x - y)) L sc) True (0 < y->∀{z:Int},x % y=z->K (il z) L sc) (y=1024->K (il (x / y)) L sc)
theorem eM(op:U8):AW LL AF (fun p=>Ok op p.1 p.2) (fun p=>Ug op p.1 p.2 ()):=fun p L sc K X hK hX=>by
 show Ug op p.1 p.2 () L sc K X
 unfold Ug
 cases ha:p.1.i? with
 | none=>
  refine Ay fun xs hx=> ?_
  cases hb:p.2.i? with
  | none=>
   cases op with
   | add=>
    exact Ay fun ys hy hl=>hK _ _ _ fun F w s r hs=>by
     obtain⟨s1,s2⟩:=s
     obtain⟨a,vs,e,e1,e2,e3⟩:=O2 r hs.1 hx
     cases e
     obtain⟨b,us,e,f1,f2,f3⟩:=O2 r hs.2 hy
     cases e
     exact .newL r (e2.app f2) (by rw[C2];exact hl) (Ap e1 (Ap f1 (congrFun (if_pos (by rw[e2.len,f2.len];exact Nat.le_trans hl (by decide))) w.H)))
   | _=>trivial
  | some z=>
   cases op with
   | mul=>
    rcases xs with _ | ⟨x,_ | _⟩
    .trivial
    .intro n hn hl
     exact hK _ _ _ fun F w s r hs=>by
      obtain⟨s1,s2⟩:=s
      cases EQ hb hs.2
      obtain⟨a,vs,e,e1,e2,e3⟩:=O2 r hs.1 hx
      cases e
      subst hn
      cases e2 with
      | cons x1 x2=>
       cases x2
       exact .newL r (Rs.rep x1 n) (by rw[List.length_replicate];exact Nat.le_trans hl (by decide)) (Ap e1 (congrFun (if_pos ⟨rfl,Int.natCast_nonneg n,Int.ofNat_le.mpr hl⟩) w.H))
    .trivial
   | _=>trivial
 | some x=>
  refine Ay fun y hy=> ?_
  have key:∀{i:Int},(∀H,Ok op (.int x) (.int y) H=.ok (.int i) H)->K (il i) L sc:=fun h=>AW.same hK fun F w s r hs=>by
   obtain⟨s1,s2⟩:=s
   cases EQ ha hs.1;cases EQ hy hs.2
   exact⟨_,h w.H,.s⟩
  cases op with
  | add=>exact key fun J=>rfl
  | sub=>exact key fun J=>rfl
  | mul=>trivial
  | mod=>exact fun h z e=>e▸key fun H=>congrFun (if_pos h) H
  | fdiv=>exact fun h=>key fun H=>congrFun (if_pos h) H
noncomputable def Vp(v:V):Bool:=v.casesOn true (fun J=>false) (fun J=>true) (fun J=>true) (fun J=>true) (fun J=>false) false
mutual
noncomputable def Mx:Nat->TV->Bool
 | 0,_=>false
 | n+1,t=>t.casesOn Vp (fun k xs=>k.casesOn (Nw n xs) (Nw n xs) (fun ks=>ks.casesOn (xs.casesOn true fun J J=>false) fun J r=>r.casesOn (xs.casesOn false fun x r=>r.casesOn (Mx n x) fun J J=>false) fun J J=>false) fun J J=>false) false
noncomputable def Nw:Nat->List TV->Bool
 | 0,_=>false
 | n+1,xs=>xs.casesOn true fun x r=>Mx n x&&Nw n r
end
theorem aD{v:V}{n:Nat}(h:Vp v=true):Kb (n+1) H v v=true:=by
 cases v with
 | none=>rfl
 | bool b=>cases h
 | int b=>exact beq_self_eq_true b
 | w b=>exact beq_self_eq_true b
 | dec b=>exact beq_self_eq_true b
 | ref a=>cases h
 | ext=>cases h
theorem Hm{n a b:Nat}{c d:Af}(e1:H[a]? =some c)(e2:H[b]? =some d)(h:RN (Jw n H) (Kb n H) c d=true):Kb (n+1) H (.ref a) (.ref b)=true:=by
 show oC H[a]? (fun c=>oC H[b]? fun d=>RN (Jw n H) (Kb n H) c d)=true
 rw[e1,e2];exact h
mutual
theorem M7(hG:∀a c,G a c->gd H a=some c):∀(n:Nat) {t:TV} {v v':V},Mx n t=true->FR G t v->FR G t v'->Kb n H v v'=true
 | 0,_,_,_,h,_,_=>by cases h
 | n+1,t,v,v',h,f,f'=>by
  cases f with
  | s=>cases f';exact aD h
  | u=>cases h
  | @n k xs a vs g1 g2 g3=>
   cases f' with
   | @n _ _ a' vs' g1' g2' g3'=>
    have e1:=hG _ _ g1
    have e2:=hG _ _ g1'
    cases k with
    | lst=>exact Hm (DD e1) (DD e2) (Kw hG n h (Eo g3) (Eo g3'))
    | tup=>exact Hm (Hd e1) (Hd e2) (Kw hG n h (Eo g3) (Eo g3'))
    | dct ks=>
     refine Hm (DF e1) (DF e2) ?_
     rcases ks with _ | ⟨k,_ | _⟩
     .rfl
     .rcases xs with _ | ⟨x,_ | _⟩
      .cases h
      .cases g3 with
       | cons q1 q2=>cases q2;cases g3' with
        | cons q1' q2'=>
         cases q2'
         show(k==k&&Kb n H _ _)=true
         rw[beq_self_eq_true,Bool.true_and]
         exact M7 hG n h q1 q1'
      .cases h
     .cases h
    | ins c ks=>cases h
theorem Kw(hG:∀a c,G a c->gd H a=some c):∀(n:Nat) {xs:List TV} {vs vs':List V},Nw n xs=true->Rs (FR G) xs vs->Rs (FR G) xs vs'->Jw n H vs vs'=true
 | 0,_,_,_,h,_,_=>by cases h
 | n+1,_,_,_,h,.nil,.nil=>rfl
 | n+1,_,_,_,h,.cons a b,.cons a' b'=>by
  have h:=(P8 _ _).mp h
  exact(P8 _ _).mpr ⟨M7 hG n h.1 a a',Kw hG n h.2 b b'⟩
end
end
section
variable{α β τ σ ς:Type}{F:Fm}{L L':List LC}{w:Wd}{G:Nat->Af->Prop}{ρ:List Nat}{H:MH}
noncomputable def YB(x y:V):Option Bool:=x.casesOn (y.casesOn (some true) (fun J=>none) (fun J=>none) (fun J=>some false) (fun J=>none) (fun J=>none) none) (fun J=>none)
 (fun i=>y.casesOn none (fun J=>none) (fun j=>some (i==j)) (fun J=>some false) (fun J=>none) (fun J=>none) none)
 (fun i=>y.casesOn (some false) (fun J=>none) (fun J=>some false) (fun j=>some (i==j)) (fun J=>none) (fun J=>none) none)
 (fun i=>y.casesOn none (fun J=>none) (fun J=>none) (fun J=>none) (fun j=>JA (decide (i=j)) true) (fun J=>none) none) (fun J=>none) none
theorem Xe{x y:V}{b:Bool}(e:YB x y=some b):SU H x y=some b:=by
 cases x with
 | ref=>cases e
 | _=>cases y<;>first | exact e | cases e
theorem ZY{i j:Int}(h:i≠j):YB (.int i) (.int j)=some false:=congrArg some (beq_eq_false_iff_ne.mpr h)
theorem GH{i j:Nat}(h:i≠j):YB (.w i) (.w j)=some false:=congrArg some (beq_eq_false_iff_ne.mpr h)
noncomputable def LC.tr?(c:LC):Option TV:=c.casesOn (fun J xs=>some (.n .lst xs)) (fun J=>none) (fun J=>none) (fun J J=>none) some
noncomputable def cS(L:List LC)(v:LV):Option TV:=v.casesOn some fun i=>(L[i]?).rec none LC.tr?
noncomputable abbrev GA(H:MH)(a:Nat)(c:Af):Prop:=gd H a=some c
theorem Tk(r:Rl F L w){x:LV}{v:V}{t:TV}(h:AF (Gz F L w) w.ρ x v)(e:cS L x=some t):FR (GA w.H) t v:=by
 have l:Le (Gz F L w) (GA w.H):=fun J J h=>h.2
 cases x with
 | f t=>cases e;exact FR.mono l h
 | r i=>
  obtain⟨a,h1,rfl⟩:=h
  obtain⟨c,e1,e⟩:=ob e
  have q:=r.cells i a c h1 e1
  cases c with
  | lst b xs=>cases e;exact let⟨vs,p,q,n⟩:=q;.n (k:= .lst) p n (IF (q.mono fun J J=>FR.mono l))
  | fz t=>cases e;exact FR.mono l q
  | _=>cases e
noncomputable def dY(a b:LV)(L:List LC)(sc:Sc)(k:Bool->Sc->Prop):Prop:=sE sc
 (fun sc=>a.s?.rec
  (b.s?.rec (oE (rd Ct.l? L a) fun xs=>oE (rd Ct.l? L b) fun ys=>ys.casesOn (xs.casesOn (k true sc) fun J J=>k false sc) fun J J=>True) fun y=>oE (Vw y) fun J=>oE (rd Ct.x? L a) fun J=>k false sc)
  fun x=>oE b.s? fun y=>oE (YB x y) fun t=>k t sc)
 (fun sc=>oE a.s? fun x=>oE b.s? fun y=>∀{t},YB x y=some t->k t sc)
 (fun sc=>oE (rd Ct.l? L a) fun xs=>oE (rd Ct.l? L b) fun ys=>ys.casesOn (xs≠[]->k false sc) fun J J=>True)
 fun sc=>oE (cS L a) fun t=>oE (cS L b) fun u=>t=u->Mx 64 t=true->k true sc
section
variable{a b:Nat}{xs ys:List V}
theorem Zv{k:Nat}(e:H[a]? =some (.list xs)\/H[a]? =some (.tup xs)):SU H (.ref a) (.w k)=some false:=by
 show JA (oC H[a]? Zb) false=_
 rcases e with e | e<;>(rw[e];rfl)
theorem Zd{c d:Af}{t:Bool}(e:H[a]? =some c)(e2:H[b]? =some d)(h:WA c d=some t):SU H (.ref a) (.ref b)=some t:=by
 show Z9 (@Option.casesOn _ (fun J=>Option Bool) H[a]? none fun c=> @Option.casesOn _ (fun J=>Option Bool) H[b]? none fun d=>WA c d) _=_
 rw[e,e2]
 show Z9 (WA c d) _=_
 rw[h];rfl
theorem Yq(e:H[a]? =some (.list []))(e2:H[b]? =some (.list [])):SU H (.ref a) (.ref b)=some true:=Zd e e2 rfl
theorem UI{x:V}(e:H[a]? =some (.list (x::xs)))(e2:H[b]? =some (.list [])):SU H (.ref a) (.ref b)=some false:=Zd e e2 rfl
theorem Vf(h:Kb Jp H (.ref a) (.ref b)=true):SU H (.ref a) (.ref b)=some true:=by
 have hd:oC H[a]? (fun c=>oC H[b]? fun d=>RN (Jw 63 H) (Kb 63 H) c d)=true:=h
 show Z9 (@Option.casesOn _ (fun J=>Option Bool) H[a]? none fun c=> @Option.casesOn _ (fun J=>Option Bool) H[b]? none fun d=>WA c d) (JA (Kb Jp H (.ref a) (.ref b)) true)=_
 rw[h]
 cases ha:H[a]? with
 | none=>rfl
 | some c=>
  cases hb:H[b]? with
  | none=>rfl
  | some d=>
   rw[ha,hb]at hd
   cases c with
   | list xs=>
    cases d with
    | list ys=>cases xs<;>cases ys<;>first | rfl | cases hd
    | _=>rfl
   | _=>rfl
end
theorem fV{x y:LV}{sc:Sc}{k:Bool->Sc->Prop}(h:∀b sc,(∀F w x' y',Rl F L w->AF (Gz F L w) w.ρ x x'->AF (Gz F L w) w.ρ y y'->SU w.H x' y'=some b)->k b sc):dY x y L sc k:=by
 have k1:∀{u v t sc},x.s? =some u->y.s? =some v->YB u v=some t->k t sc:=fun h1 h2 e=>h _ _ fun F w x' y' r q1 q2=>by
  rw[N9 h1 q1,N9 h2 q2];exact Xe e
 have k2:∀{xs sc},rd Ct.l? L x=some xs->rd Ct.l? L y=some []->xs≠[]->k false sc:=fun h1 h2 e=>h _ _ fun F w x' y' r q1 q2=>by
  obtain⟨a,vs,rfl,e1,e2,e3⟩:=O2 r q1 h1
  obtain⟨b,us,rfl,f1,f2,f3⟩:=O2 r q2 h2
  cases f2
  cases e2 with
  | nil=>exact absurd rfl e
  | cons=>exact UI e1 f1
 refine HL (fun sc=> ?_) (fun sc=>Ay fun u hu=>Ay fun v hv t e=>k1 hu hv e) (fun sc=>Ay fun xs hx=>Ay fun ys hy=> ?_) fun sc=>Ay fun t ht=>Ay fun u hu e hd=> ?_
 .cases hx:x.s? with
  | some u=>exact Ay fun v hv=>Ay fun t e=>k1 hx hv e
  | none=>
   cases hy:y.s? with
   | some v=>
    exact Ay fun i hi=>Ay fun xs hxs=>h _ _ fun F w x' y' r q1 q2=>by
     obtain⟨a,vs,rfl,e1,_⟩:=dQ r q1 hxs
     cases N9 hy q2
     cases v with
     | w j=>exact Zv e1
     | _=>cases hi
   | none=>
    refine Ay fun xs hx=>Ay fun ys hy=> ?_
    cases ys with
    | cons=>trivial
    | nil=>
     cases xs with
     | cons=>exact k2 hx hy (by intro h;cases h)
     | nil=>
      exact h _ _ fun F w x' y' r q1 q2=>by
       obtain⟨a,vs,rfl,e1,e2,e3⟩:=O2 r q1 hx
       obtain⟨b,us,rfl,f1,f2,f3⟩:=O2 r q2 hy
       cases f2;cases e2
       exact Yq e1 f1
 .cases ys with
  | nil=>exact fun e=>k2 hx hy e
  | cons=>trivial
 .exact h _ _ fun F w x' y' r q1 q2=>by
   subst e
   have f1:=Tk r q1 ht
   have f2:=Tk r q2 hu
   have d:=M7 (fun J J h=>h) 64 hd f1 f2
   cases f1 with
   | @s v=>
    cases f2
    cases x' with
    | none=>rfl
    | int i=>exact congrArg some (beq_self_eq_true i)
    | w i=>exact congrArg some (beq_self_eq_true i)
    | dec i=>exact congrArg (fun b=>JA b true) (decide_eq_true rfl)
    | _=>cases hd
   | u=>cases hd
   | n=>cases f2 with
    | n=>exact Vf d
end
noncomputable abbrev RA:Ed (List LV) (List V):=fun G ρ=>Rs (AF G ρ)
noncomputable abbrev RT:Ed TV V:=fun G J=>FR G
noncomputable abbrev TR(Aa:List Int)(d:Nat)(f:Fn)(args:List LV)(Lb:List LC)(out:Oc TV):Prop:=Sm RA RT (HO Aa d f) args Lb out
section
variable{α β τ σ ς:Type}{rel:Ed τ α}{F:Fm}{L L':List LC}{w:Wd}{G:Nat->Af->Prop}{ρ:List Nat}{H:MH}{Aa:List Int}{d:Nat}{f:Fn}
theorem Rn.pre{m:M α}{out:Oc τ}(n:Nx F L w L' w)(h:Rn F L' w m rel out):Rn F L w m rel out:=by
 cases out with
 | ok t L2=>exact let⟨a,w2,e,n2,q⟩:=h;⟨a,w2,e,n.trans n2,q⟩
 | exc t L2=>exact let⟨w2,e,n2⟩:=h;⟨w2,e,n.trans n2⟩
noncomputable def W2:Tr (List LV) LV:=fun vs L sc K J=>bE (Nat.ble vs.length 100) (oE (aG vs L) fun p=>p.rec fun ts L=>newL L ts sc K)
theorem cF:AW RA AF (fun vs=>if vs.length<=BR then alloc (.list vs)else bad) W2:=fun vs L sc K X hK hX=>Hg fun hl=>Ay fun p hp=>hK _ _ _ fun F w s r hs=>by
 obtain⟨n,h⟩:=K7 r hs hp
 have hl:=BK hl
 exact .pre n (.newL n.r h (by rw[<-h.len,hs.len];exact Nat.le_trans hl (by decide)) (congrFun (if_pos (by rw[hs.len];exact Nat.le_trans hl (by decide))) w.H))
noncomputable def WO:Tr (List LV) LV:=fun vs L sc K J=>bE (Nat.ble vs.length 100) (oE (aG vs L) fun p=>p.rec fun ts L=>K (.f (.n .tup ts)) L sc)
theorem Rn.done{m:M V}{k:Nd}{xs:List TV}{vs:List V}(r:Rl F L w)(hd:dm (k.cell vs)=k.cell vs)(h:Rs (FR (Gz F L w)) xs vs)(hl:xs.length<=k.bd)(e:m w.H=.ok (.ref w.H.length) (w.H++[k.cell vs])):Rn F L w m AF (.ok (.f (.n k xs)) L):=
 have n:Nx F L w L ⟨w.ρ,w.H++[k.cell vs]⟩:=Ii r (by rw[C2];exact Nat.le_add_right _ _) fun J h=>It h
 ⟨_,⟨w.ρ,w.H++[k.cell vs]⟩,e,n,.n ⟨fun s=>s.elim (fun s=>absurd (r.sF _ s) (Nat.not_lt.mpr r.le)) fun⟨i,c,e,_⟩=>absurd (r.lt i _ e) (Nat.lt_irrefl _),So.trans (congrArg some hd)⟩ hl (IF (h.mono fun J J=>FR.mono n.l))⟩
theorem bT:AW RA AF (fun vs=>if vs.length<=BR then alloc (.tup vs)else bad) WO:=fun vs L sc K X hK hX=>Hg fun hl=>Ay fun p hp=>hK _ _ _ fun F w s r hs=>by
 obtain⟨n,h⟩:=K7 r hs hp
 have hl:=BK hl
 exact .pre n (.done (k:= .tup) n.r rfl h (by rw[<-h.len,hs.len];exact Nat.le_trans hl (by decide)) (congrFun (if_pos (by rw[hs.len];exact Nat.le_trans hl (by decide))) w.H))
theorem Uq(r:Rl F L w):Rl ⟨Sx F L w,w.H⟩ [] ⟨[],w.H⟩:=
 {
  tab:=r.tab,t0:=fun i h=>(by cases i<;>cases h),nd:=fun i j a h=>(by cases i<;>cases h),len:=rfl,lt:=fun i a h=>(by cases i<;>cases h)
  sF:=fun a s=>s.elim (fun s=>Nat.lt_of_lt_of_le (r.sF a s) r.le) fun⟨i,c,e,_⟩=>r.lt i a e
  le:=Nat.le_refl _,old:=fun a J J=>rfl,own:=fun i a c h=>(by cases i<;>cases h),cells:=fun i a c h=>(by cases i<;>cases h)}
theorem Pc{L':List LC}(h:∀(i:Nat) (c:LC),L'[i]? =some c->c.mut=true->∃c':LC,L[i]? =some c'/\c'.mut=true){Lb:List LC}{wb:Wd}:Le (Gz ⟨Sx F L w,w.H⟩ Lb wb) (Gz F L' ⟨w.ρ,wb.H⟩):=fun a c h1=>
 ⟨fun s=>h1.1 (.inl (s.imp id fun⟨i,c,e1,e2,e3⟩=>let⟨c',q1,q2⟩:=h i c e2 e3;⟨i,c',e1,q1,q2⟩)),h1.2⟩
theorem Zn:Le (Gz F L w) (Gz ⟨Sx F L w,w.H⟩ [] ⟨[],w.H⟩):=fun a c h=>⟨fun s=>s.elim h.1 fun⟨i,c,e,_⟩=>(by cases i<;>cases e),h.2⟩
theorem aW{xs:List TV}{vs:List V}(h:Rs (FR G) xs vs):Rs (AF G ρ) (xs.map .f) vs:=by
 induction h with
 | nil=>exact .nil
 | cons x _ ih=>exact .cons x ih
theorem OG{w':Wd}{F':Fm}(n:Rl F' [] w')(i a:Nat):¬w'.ρ[i]? =some a:=by
 have:=n.len
 cases h:w'.ρ with
 | nil=>intro e;cases i<;>cases e
 | cons=>rw[h]at this;cases this
noncomputable def S0(Aa:List Int)(d:Nat)(f:Fn):Tr (List LV) LV:=fun vs L sc K X=>oE (aG vs L) fun p=>p.rec fun ts L=>sE sc (fun sc=>∀{t},TR Aa d f (ts.map .f) [] (.ok t [])->K (.f t) L sc) (fun sc=>∀{m},TR Aa d f (ts.map .f) [] (.exc m [])->X m L sc) (fun J=>True) fun J=>True
theorem WS:AW RA AF (HO Aa d f) (S0 Aa d f):=fun vs L sc K X hK hX=>Ay fun p hp=>by
 have key:∀{out:Oc TV} {F:Fm} {w:Wd} {s:List V},Rl F L w->RA (Gz F L w) w.ρ vs s->TR Aa d f (p.1.map .f) [] out->Nx F L w p.2 w/\Rn ⟨Sx F p.2 w,w.H⟩ [] ⟨[],w.H⟩ (HO Aa d f s) RT out:=fun r hs h=>
  let⟨n,q⟩:=K7 r hs hp
  ⟨n,h _ _ _ (Uq n.r) (aW (q.mono fun J J=>FR.mono Zn))⟩
 have kp:∀{F:Fm} {w w':Wd},Rl F p.2 w->Rl ⟨Sx F p.2 w,w.H⟩ [] w'->Nx F p.2 w p.2 ⟨w.ρ,w'.H⟩:=fun r n=>Ii r n.le fun b hb=>n.old b hb fun i=>OG n i b
 refine HL (fun sc t h=>hK _ _ _ fun F w s r hs=> ?_) (fun sc m h=>hX _ _ _ fun F w s r hs=> ?_) (fun J=>trivial) fun J=>trivial
 .obtain ⟨n,v,w',e,n2,q⟩:=key r hs h
  exact⟨v,⟨w.ρ,w'.H⟩,e,n.trans (kp n.r n2.r),FR.mono (Pc fun i c e1 e2=>⟨c,e1,e2⟩) q⟩
 .obtain ⟨n,w',e,n2⟩:=key r hs h
  exact⟨⟨w.ρ,w'.H⟩,e,n.trans (kp n.r n2.r)⟩
theorem Vt(r:Rl F L w){i a:Nat}{b:Bool}{g:List TV}(hi:w.ρ[i]? =some a)(hm:L[i]? =some (.lst b g)):Rl ⟨Sx F L w,w.H⟩ [.lst true g] ⟨[a],w.H⟩/\Le (Gz F L w) (Gz ⟨Sx F L w,w.H⟩ [.lst true g] ⟨[a],w.H⟩):=
 have one:∀{α:Type} {x y:α} {i:Nat},[x][i]? =some y->i=0/\y=x:=fun {α x y i} h=>by cases i<;>cases h;exact⟨rfl,rfl⟩
 have l:Le (Gz F L w) (Gz ⟨Sx F L w,w.H⟩ [.lst true g] ⟨[a],w.H⟩):=fun x c h=>⟨fun s=>s.elim h.1 fun⟨j,c',e,_⟩=>h.1 (.inr ⟨i,_,(one e).2▸hi,hm,rfl⟩),h.2⟩
 ⟨{
   tab:=r.tab,t0:=fun j h=>r.t0 i ((one h).2▸hi),nd:=fun i j x h h'=>(one h).1.trans (one h').1.symm,len:=rfl,lt:=fun j x h=>(one h).2▸r.lt i a hi
   sF:=fun a s=>s.elim (fun s=>Nat.lt_of_lt_of_le (r.sF a s) r.le) fun⟨i,c,e,_⟩=>r.lt i a e
   le:=Nat.le_refl _,old:=fun a J J=>rfl
   own:=fun j x c h e q=>(by obtain⟨rfl,rfl⟩:=one e;cases q)
   cells:=fun j x c h e=>(by
    obtain⟨rfl,rfl⟩:=one e
    obtain⟨_,rfl⟩:=one h
    exact let⟨vs,q,z,n⟩:=r.cells i x _ hi hm;⟨vs,q,z.mono fun J J=>FR.mono l,n⟩)},l⟩
noncomputable def fT(vs:List LV):Nat->List LC->Option (List LV×List LC):=vs.rec (fun J L=>some ([],L)) fun v r ih j L=>j.casesOn ((aG r L).rec none fun q=>q.rec fun ts L=>some (.r 0::ts.map .f,L)) fun j=>(fz L v).rec none fun q=>q.rec fun t L=>(ih j L).rec none fun s=>s.rec fun ts L=>some (.f t::ts,L)
theorem Yw{vs:List LV}:∀{j:Nat} {L:List LC} {q:List V} {p:List LV×List LC} {i a:Nat},Rl F L w->Rs (AF (Gz F L w) w.ρ) vs q->vs[j]? =some (.r i)->w.ρ[i]? =some a->fT vs j L=some p->Nx F L w p.2 w/\Rs (AF (Gz F p.2 w) [a]) p.1 q:=by
 induction vs with
 | nil=>intro j L q p i a r h e;cases j<;>cases e
 | cons v vs ih=>
  intro j L q p i a r h e ha e2
  cases h with
  | @cons _ u _ us x y=>
   cases j with
   | zero=>
    cases e
    obtain⟨s,e3,e2⟩:=ob e2
    cases e2
    obtain⟨n,z⟩:=K7 r y e3
    obtain⟨a',q1,q2⟩:=x
    rw[ha]at q1
    cases q1
    exact⟨n,.cons ⟨a,rfl,q2⟩ (aW z)⟩
   | succ j=>
    obtain⟨s,e3,e2⟩:=ob e2
    obtain⟨s2,e4,e2⟩:=ob e2
    cases e2
    obtain⟨n,z⟩:=Gq r x e3
    obtain⟨n2,z2⟩:=ih n.r (y.mono fun J J=>AF.mono n.l n.p) e ha e4
    exact⟨n.trans n2,.cons (FR.mono n2.l z) z2⟩
noncomputable def SL(Aa:List Int)(d:Nat)(f:Fn)(j:Nat):Tr (List LV) LV:=fun vs L sc K X=>oE (vs[j]?) fun v=>oE v.r? fun i=>oE (fT vs j L) fun p=>p.rec fun as L=>oE (L[i]?) fun c=>oE c.l? fun q=>q.rec fun b xs=>
 sE sc (fun sc=>∀{t g},TR Aa d f as [.lst true xs] (.ok t [.lst true g])->K (.f t) (L.set i (.lst b g)) sc) (fun sc=>∀{m g},TR Aa d f as [.lst true xs] (.exc m [.lst true g])->X m (L.set i (.lst b g)) sc) (fun J=>True) fun J=>True
theorem WM{j:Nat}:AW RA AF (HO Aa d f) (SL Aa d f j):=fun vs L sc K X hK hX=>Ay fun v hv=>Ay fun i hi=>Ay fun p hp=>Ay fun c hc=>Ay fun q hq=>by
 have key:∀{out:Oc TV} {F:Fm} {w:Wd} {s:List V},Rl F L w->RA (Gz F L w) w.ρ vs s->TR Aa d f p.1 [.lst true q.2] out->Nx F L w p.2 w/\∃a,w.ρ[i]? =some a/\Rn ⟨Sx F p.2 w,w.H⟩ [.lst true q.2] ⟨[a],w.H⟩ (HO Aa d f s) RT out:=fun {out F w s} r hs h=>by
  obtain⟨u,_,hu⟩:=hs.get hv
  obtain⟨a,ea,_⟩:=St hi hu
  obtain⟨n,z⟩:=Yw r hs (hv.trans (congrArg some (by cases v with | f t=>cases hi | r k=>cases hi;rfl))) ea hp
  obtain⟨r2,l2⟩:=Vt n.r ea (hc.trans (congrArg some (Ut hq)))
  exact⟨n,a,ea,h _ _ _ r2 (z.mono fun x v h=>AF.mono l2 (List.prefix_refl _) h)⟩
 have kp:∀{F:Fm} {w w':Wd} {a:Nat} {g:List TV},Rl F p.2 w->w.ρ[i]? =some a->Nx ⟨Sx F p.2 w,w.H⟩ [.lst true q.2] ⟨[a],w.H⟩ [.lst true g] w'->Nx F p.2 w (p.2.set i (.lst q.1 g)) ⟨w.ρ,w'.H⟩/\Le (Gz ⟨Sx F p.2 w,w.H⟩ [.lst true g] w') (Gz F (p.2.set i (.lst q.1 g)) ⟨w.ρ,w'.H⟩):=fun {F w w' a g} r ha n=>by
  have hρ:w'.ρ=[a]:=(n.p.eq_of_length n.r.len.symm).symm
  have hm:=hc.trans (congrArg some (Ut hq))
  have l:Le (Gz ⟨Sx F p.2 w,w.H⟩ [.lst true g] w') (Gz F (p.2.set i (.lst q.1 g)) ⟨w.ρ,w'.H⟩):=Pc fun k c e1 e2=>by
   rw[List.getElem?_set]at e1
   by_cases h:i=k
   .subst h;exact⟨_,hm,rfl⟩
   .rw [if_neg h]at e1;exact⟨c,e1,e2⟩
  refine⟨Jt r ha hm rfl rfl n.r.le (fun b hb JK=>n.r.old b hb fun k e=> ?_) fun J=> ?_,l⟩
  .rw [hρ]at e
   cases k<;>cases e
   exact JK rfl
  .exact let⟨vs,e,z,nn⟩:=n.r.cells 0 a _ (by rw[hρ];rfl) rfl;⟨vs,e,z.mono fun J J=>FR.mono l,nn⟩
 refine HL (fun sc t g h=>hK _ _ _ fun F w s r hs=> ?_) (fun sc m g h=>hX _ _ _ fun F w s r hs=> ?_) (fun J=>trivial) fun J=>trivial
 .obtain ⟨n,a,ha,v,w',e,n2,q⟩:=key r hs h
  obtain⟨n3,l3⟩:=kp n.r ha n2
  exact⟨v,⟨w.ρ,w'.H⟩,e,n.trans n3,FR.mono l3 q⟩
 .obtain ⟨n,a,ha,w',e,n2⟩:=key r hs h
  exact⟨⟨w.ρ,w'.H⟩,e,n.trans (kp n.r ha n2).1⟩
end
noncomputable abbrev AA:Type:=List (Option LV)
inductive OV{α β:Type}(R:α->β->Prop):Option α->Option β->Prop
 | no {y:Option β}:OV R none y
 | so {a:α} {b:β}:R a b->OV R (some a) (some b)
theorem OV.mono{α β:Type}{R R':α->β->Prop}(f:∀a b,R a b->R' a b){x:Option α}{y:Option β}(h:OV R x y):OV R' x y:=by
 cases h with
 | no=>exact .no
 | so q=>exact .so (f _ _ q)
noncomputable abbrev RV:Ed AA Mine.Env:=fun G ρ=>Rs (OV (AF G ρ))
theorem OR.mono{α β:Type}{R R':α->β->Prop}(f:∀a b,R a b->R' a b){x:Option α}{y:Option β}(h:OR R x y):OR R' x y:=by
 cases h with
 | no=>exact .no
 | so q=>exact .so (f _ _ q)
theorem AI:FN RV:=fun l p J J h=>h.mono fun J J q=>q.mono fun J J=>AF.mono l p
section
variable{α β τ σ ς:Type}{R:Ed σ ς}{rel:Ed τ α}{F:Fm}{L L':List LC}{w:Wd}{G:Nat->Af->Prop}{ρ:List Nat}{H:MH}{Aa:List Int}{d:Nat}{f:Fn}
noncomputable def Xf(i:Nat):Tr AA LV:=fun env L sc K J=>oE ((env[i]?).rec none id) fun v=>K v L sc
theorem Y6(i:Nat):AW RV AF (fun env=>Co (env[i]?).join) (Xf i):=fun env L sc K X hK hX=>Ay fun v hv=>AW.same hK fun F w s r hs=>by
 obtain⟨o,e1,e2⟩:=ob hv
 obtain⟨o',e3,q⟩:=hs.get e1
 cases e2
 cases q with
 | so q=>exact⟨_,Bs (by rw[e3];rfl),q⟩
theorem Yb(v:V):AW R AF (fun J=>ret v) (fun J L sc K J=>K (sv v) L sc):=fun env L sc K X hK hX=>AW.same hK fun F w s r hs=>⟨v,rfl,.s⟩
theorem Wx:AW R AF (fun J=>alloc (.dictW [])) (fun J L sc K J=>K (.r L.length) (L++[.dct []]) sc):=fun env L sc K X hK hX=>hK _ _ _ fun F w s r hs=> .new r rfl rfl fun J J J J=>⟨[],rfl,.nil,by decide⟩
theorem YA:AW R AF (fun J=>alloc (.dictI [])) (fun J L sc K J=>K (.r L.length) (L++[.dci []]) sc):=fun env L sc K X hK hX=>hK _ _ _ fun F w s r hs=> .new r rfl rfl fun J J J J=>⟨[],rfl,.nil,by decide⟩
noncomputable def LC.d?(c:LC):Option (List (Nat×TV)):=c.casesOn (fun J J=>none) some (fun J=>none) (fun J J=>none) fun J=>none
noncomputable def LC.e?(c:LC):Option (List (Int×TV)):=c.casesOn (fun J J=>none) (fun J=>none) some (fun J J=>none) fun J=>none
theorem Y2{c:LC}{p:List (Nat×TV)}(e:c.d? =some p):c=.dct p:=by
 cases c with
 | dct b=>cases e;rfl
 | _=>cases e
theorem dL{c:LC}{p:List (Int×TV)}(e:c.e? =some p):c=.dci p:=by
 cases c with
 | dci b=>cases e;rfl
 | _=>cases e
theorem eP{c:LC}{p:Dz×List (Nat×LV)}(e:c.i? =some p):c=.ins p.1 p.2:=by
 cases c with
 | ins b=>cases e;rfl
 | _=>cases e
noncomputable def Wu(k:Nat)(o v:LV):Tr Unit LV:=fun J L sc K J=>Xg L v fun t L=>oE o.r? fun i=>oE (L[i]?) fun c=>oE c.d? fun kvs=>kvs.casesOn (K o (L.set i (.dct [(k,t)])) sc) fun J J=>True
theorem ZG(k:Nat):AW LL AF (fun p=>bnd (stays p.1 (.dictW [])) fun J=>bnd (D0 p.1 (.dictW [(k,p.2)])) fun J=>ret p.1) (fun p=>Wu k p.1 p.2 ()):=fun p L sc K X hK hX=>Ay fun q hq=>Ay fun i hi=>Ay fun c hc=>Ay fun kvs hk=>by
 cases kvs with
 | cons=>trivial
 | nil=>
  exact hK _ _ _ fun F w s r hs=>by
   obtain⟨s1,s2⟩:=s
   obtain⟨n,z⟩:=Gq r hs.2 hq
   obtain⟨a,ea,e⟩:=St hi hs.1
   cases e
   have hm:=hc.trans (congrArg some (Y2 hk))
   obtain⟨u,e1,e2,_⟩:=n.r.cells i a _ ea hm
   cases e2
   have nx:=Tn (ys:=[(k,q.1)]) (us:=[(k,s2)]) n.r ea hm (.cons ⟨rfl,z⟩ .nil) (BK rfl)
   exact⟨.ref a,⟨w.ρ,w.H.set a (.dictW [(k,s2)])⟩,(Av (Ap (DF e1) (congrFun (if_pos rfl) w.H))).trans rfl,n.trans nx,AF.mono (n.trans nx).l (List.prefix_refl _) hs.1⟩
theorem Kq{args:List V}(h:args.length=(prog f).params)(hd:(prog f).dflt=[]):
  HO Aa (d+1) f args=bnd (Ak (CS Aa d) (prog f).body (args.map some++List.replicate ((prog f).vars - (prog f).params) none)) fun p=>ret (p.2.getD .none):=by
 unfold HO
 rw[D8,hd]
 simp[h]
theorem D7{C:Iv Fn}{k:Dz}{fs:List (Nat×V)}{a:Nat}{n:Nat}{e:ME Fn}{v:V}{env:Mine.Env}{r:List (MS Fn)}{out:Mine.R (Mine.Env×Option V)}(lt:a < H.length)(h0:env[0]? =some (some (.ref a)))(he:∀H,Ac C e env H=.ok v H)(hl:fs.length < 100)
  (h:Ak C r env (H.set a (.inst k (ET n v fs)))=out):Ak C (.setA (.O 0) n e::r) env (H.set a (.inst k fs))=out:=by
 have e1:E6 C (.setA (.O 0) n e) env (H.set a (.inst k fs))=.ok (env,none) (H.set a (.inst k (ET n v fs))):=by
  refine(Av (he _)).trans ((Av (Bs (x:= .ref a) (by rw[h0];rfl))).trans ?_)
  refine(Av (a:=()) (H':=(H.set a (.inst k fs)).set a (.inst k (ET n v fs))) (Ap (GS lt) (congrFun (if_pos hl) _))).trans ?_
  rw[List.set_set];rfl
 exact(Av e1).trans h
theorem Jj{a:Nat}{c:Af}(h:H[a]? =some c):H.set a c=H:=by
 apply List.ext_getElem?
 intro i
 by_cases e:a=i
 .subst e;rw[GS (EK.mp h).1,h]
 .rw [Iu e]
theorem WI{C:Iv Fn}{a:Nat}{k x y:V}(h:H[a]? =some (.inst .vector [])):Ak C Di.body [some (.ref a),some k,some x,some y] H=.ok ([some (.ref a),some k,some x,some y],none) (H.set a (.inst .vector [(0,k),(1,x),(2,y),(3,.bool false),(4,.bool false)])):=by
 have lt:=(EK.mp h).1
 conv=>lhs;rw[<-Jj h]
 exact D7 lt rfl (fun J=>rfl) (BK rfl) (D7 lt rfl (fun J=>rfl) (BK rfl) (D7 lt rfl (fun J=>rfl) (BK rfl) (D7 lt rfl (fun J=>rfl) (BK rfl) (D7 lt rfl (fun J=>rfl) (BK rfl) rfl))))
theorem Xy{C:Iv Fn}{a:Nat}(h:H[a]? =some (.inst .null [])):Ak C GD.body [some (.ref a)] H=.ok ([some (.ref a)],none) (H.set a (.inst .null [(0,.w 6),(2,.none)])):=by
 have lt:=(EK.mp h).1
 conv=>lhs;rw[<-Jj h]
 exact D7 lt rfl (fun J=>rfl) (BK rfl) (D7 lt rfl (fun J=>rfl) (BK rfl) rfl)
noncomputable def gP(c:Dz)(vs:List LV):Option (List (Nat×LV)):=c.casesOn (vs.casesOn (some [(0,sv (.w 6)),(2,sv .none)]) fun J J=>none)
 (vs.casesOn none fun k r=>r.casesOn none fun x r=>r.casesOn (some [(0,k),(1,x),(2,sv .none),(4,bl false)]) fun y r=>r.casesOn (some [(0,k),(1,x),(2,y),(4,bl false)]) fun J J=>none)
noncomputable def dZ(d:Nat)(c:Dz):Tr (List LV) LV:=fun vs L sc K J=>d.casesOn True fun J=>oE (gP c vs) fun fs=>K (.r L.length) (L++[.ins c fs]) sc
theorem NH{m:List V->M V}{s:List V}{c:Dz}{fs:List (Nat×LV)}{q:List (Nat×V)}(r:Rl F L w)(e:m s w.H=.ok (.ref w.H.length) (w.H++[Af.inst c q]))(hq:dm (.inst c q)=.inst c (E9 q))(h:Rs (KR (AF (Gz F L w) w.ρ)) fs (E9 q))(hl:fs.length<=90):Rn F L w (m s) AF (.ok (.r L.length) (L++[.ins c fs])):=
 .new r rfl e fun J J l p=>⟨_,congrArg some hq,h.mono (KR.mono fun J J=>AF.mono l p),hl⟩
noncomputable abbrev aT(Aa:List Int)(d:Nat)(c:Dz)(vs:List V):M V:=bnd (alloc (Af.inst c [])) fun o=>bnd (still (HO Aa d (Mine.initOf c) (o::vs))) fun r=>if r=.none then ret o else bad
theorem Nz{c:Dz}{vs:List V}{q:List (Nat×V)}(e:HO Aa d (Mine.initOf c) (.ref H.length::vs) (H++[Af.inst c []])=.ok .none ((H++[Af.inst c []]).set H.length (.inst c q))):aT Aa d c vs H=.ok (.ref H.length) (H++[Af.inst c q]):=by
 have e2:still (HO Aa d (Mine.initOf c) (.ref H.length::vs)) (H++[Af.inst c []])=.ok .none ((H++[Af.inst c []]).set H.length (.inst c q)):=by
  unfold still;rw[e]
 refine(Av (m:=alloc (Af.inst c [])) (f:=fun o=>bnd (still (HO Aa d (Mine.initOf c) (o::vs))) fun r=>if r=.none then ret o else bad) rfl).trans ((Av e2).trans ?_)
 rw[List.set_append_right _ _ (Nat.le_refl _),Nat.sub_self];rfl
theorem gX(c:Dz):AW RA AF (aT Aa d c) (dZ d c):=fun vs L sc K X hK hX=>by
 cases d with
 | zero=>trivial
 | succ d=>
  refine Ay fun fs hf=>hK _ _ _ fun F w s r hs=> ?_
  have hnew:∀{c:Dz},(w.H++[Af.inst c []])[w.H.length]? =some (.inst c []):=by simp
  cases c with
  | null=>
   cases hs with
   | nil=>
    cases hf
    exact NH (m:=aT Aa (d+1) .null) (q:=[(0,.w 6),(2,.none)]) r (Nz ((congrFun (Kq (f:= .Ck) rfl rfl) _).trans ((Av (Xy hnew)).trans rfl))) rfl (.cons ⟨rfl,.s⟩ (.cons ⟨rfl,.s⟩ .nil)) (BK rfl)
   | cons=>cases hf
  | vector=>
   cases hs with
   | nil=>cases hf
   | cons x hs=>cases hs with
    | nil=>cases hf
    | cons y hs=>cases hs with
     | nil=>
      cases hf
      refine NH (m:=aT Aa (d+1) .vector) r (Nz (q:=[(0,_),(1,_),(2,.none),(3,.bool false),(4,.bool false)]) ?_) rfl (.cons ⟨rfl,x⟩ (.cons ⟨rfl,y⟩ (.cons ⟨rfl,.s⟩ (.cons ⟨rfl,.s⟩ .nil)))) (BK rfl)
      exact(congrFun (show HO Aa (d+1) .An _=bnd (Ak (CS Aa d) Di.body _) fun p=>ret (p.2.getD .none)from rfl) _).trans ((Av (WI hnew)).trans rfl)
     | cons z hs=>cases hs with
      | nil=>
       cases hf
       refine NH (m:=aT Aa (d+1) .vector) r (Nz (q:=[(0,_),(1,_),(2,_),(3,.bool false),(4,.bool false)]) ?_) rfl (.cons ⟨rfl,x⟩ (.cons ⟨rfl,y⟩ (.cons ⟨rfl,z⟩ (.cons ⟨rfl,.s⟩ .nil)))) (BK rfl)
       exact(congrFun (show HO Aa (d+1) .An _=bnd (Ak (CS Aa d) Di.body _) fun p=>ret (p.2.getD .none)from rfl) _).trans ((Av (WI hnew)).trans rfl)
      | cons=>cases hf
end
noncomputable abbrev RO:Ed (Option TV) (Option V):=fun G J=>OR (FR G)
noncomputable abbrev HG:Ed (AA×Option LV) (Mine.Env×Option V):=P2 RV fun G ρ=>OR (AF G ρ)
inductive Fs(m:Mine.Env->M (Option V))(env:AA):List TV->List LC->List TV->List LC->Prop
 | nil {L:List LC}:Fs m env [] L [] L
 | cons {x:TV} {xs r:List TV} {o:Option TV} {L L1 L':List LC}:Sm RV RO m (env++[some (.f x)]) L (.ok o L1)->Fs m env xs L1 r L'->Fs m env (x::xs) L (o.toList++r) L'
inductive DL(B:Mine.Env->M (Mine.Env×Option V))(i:Nat):List TV->AA->List LC->Oc (AA×Option LV)->Prop
 | nil {env:AA} {L:List LC}:DL B i [] env L (.ok (env,none) L)
 | next {x:TV} {xs:List TV} {env env1:AA} {L L1:List LC} {out:Oc (AA×Option LV)}:Sm RV HG B (env.set i (some (.f x))) L (.ok (env1,none) L1)->DL B i xs env1 L1 out->DL B i (x::xs) env L out
 | ret {x:TV} {xs:List TV} {env env1:AA} {v:LV} {L L1:List LC}:Sm RV HG B (env.set i (some (.f x))) L (.ok (env1,some v) L1)->DL B i (x::xs) env L (.ok (env1,some v) L1)
 | exc {x:TV} {xs:List TV} {env:AA} {m:Nat} {L L1:List LC}:Sm RV HG B (env.set i (some (.f x))) L (.exc m L1)->DL B i (x::xs) env L (.exc m L1)
section
variable{α β τ σ ς:Type}{R:Ed σ ς}{rel:Ed τ α}{F:Fm}{L L':List LC}{w:Wd}{G:Nat->Af->Prop}{ρ:List Nat}{H:MH}{Aa:List Int}{d:Nat}{f:Fn}
theorem IT{m:M α}{a:α}{H':MH}(h:m H=.ok a H'):still m H=.ok a H':=by unfold still;rw[h]
theorem Rn.still{m:M α}{t:τ}(h:Rn F L w m rel (.ok t L')):Rn F L w (Mine.still m) rel (.ok t L'):=let⟨a,w',e,q⟩:=h;⟨a,w',IT e,q⟩
noncomputable abbrev Mw(F:Fm)(L:List LC)(w:Wd)(post:M Unit):Prop:=∀H',(∀a c,Gz F L w a c->gd H' a=some c)->post H'=.ok () H'
theorem Mw.mono{post:M Unit}{w':Wd}(h:Mw F L w post)(n:Nx F L w L' w'):Mw F L' w' post:=fun H' q=>h H' fun a c g=>q a c (n.l a c g)
theorem Mw.now{post:M Unit}{w':Wd}(h:Mw F L w post)(n:Nx F L w L' w'):post w'.H=.ok () w'.H:=h w'.H fun a c g=>(n.l a c g).2
theorem QH{m:Mine.Env->M (Option V)}{env:AA}{post:M Unit}{xs ys:List TV}(h:Fs m env xs L ys L'):∀{w:Wd} {vs:List V} {Ai:Mine.Env},Rl F L w->RV (Gz F L w) w.ρ env Ai->Rs (FR (Gz F L w)) xs vs->Mw F L w post->Rn F L w (Bx (fun x=>m (Ai++[some x])) post vs) (fun G J=>Rs (FR G)) (.ok ys L'):=by
 induction h with
 | nil=>intro w vs Ai r _ hx _;cases hx;exact .same r rfl .nil
 | @cons x xs ys o L L1 L2 h1 _ ih=>
  intro w vs Ai r he hx hp
  cases hx with
  | @cons _ v _ vs hv hx=>
   obtain⟨u,w1,e1,n,q⟩:=h1 F w (Ai++[some v]) r (he.app (.cons (.so hv) .nil))
   obtain⟨us,w2,e2,n2,q2⟩:=ih n.r (AI n.l n.p he) (hx.mono fun J J=>FR.mono n.l) (hp.mono n)
   refine⟨u.toList++us,w2,?_,n.trans n2,?_⟩
   .exact (Av e1).trans ((Av (hp.now n)).trans ((Av e2).trans rfl))
   .cases q with
    | no=>exact q2
    | so q=>exact .cons (FR.mono n2.l q) q2
theorem Pa{m:Mine.Env->M (Option V)}{env:AA}{xs ys:List TV}(h:Fs m env xs L ys L'):ys.length<=xs.length:=by
 induction h with
 | nil=>exact Nat.le_refl _
 | @cons x xs ys o _ _ _ _ _ ih=>cases o with
  | none=>exact Nat.le_succ_of_le ih
  | some o=>exact Nat.succ_le_succ ih
theorem NK{B:Mine.Env->M (Mine.Env×Option V)}{i:Nat}{post:M Unit}{xs:List TV}{env:AA}{out:Oc (AA×Option LV)}(h:DL B i xs env L out):∀{w:Wd} {vs:List V} {Ai:Mine.Env},Rl F L w->RV (Gz F L w) w.ρ env Ai->Rs (FR (Gz F L w)) xs vs->Mw F L w post->Rn F L w (ER (fun x env=>B (env.set i (some x))) post vs Ai) HG out:=by
 induction h with
 | nil=>intro w vs Ai r he hx _;cases hx;exact .same r rfl ⟨he,.no⟩
 | next h1 _ ih=>
  intro w vs Ai r he hx hp
  cases hx with
  | cons hv hx=>
   refine(h1 F w _ r (he.set (OV.so (a:=LV.f _) hv) i)).bnd fun w1 p n q=> ?_
   obtain⟨e1,o⟩:=p
   cases q.2
   exact Rn.bnd (rel:=RU) (t:=()) (.same n.r (hp.now n) trivial) fun w2 J n2 J=>ih n2.r (AI n2.l n2.p q.1) (hx.mono fun J J h=>FR.mono n2.l (FR.mono n.l h)) ((hp.mono n).mono n2)
 | ret h1=>
  intro w vs Ai r he hx hp
  cases hx with
  | cons hv hx=>
   refine(h1 F w _ r (he.set (OV.so (a:=LV.f _) hv) i)).bnd fun w1 p n q=> ?_
   obtain⟨e1,o⟩:=p
   cases hq:o with
   | none=>rw[hq]at q;cases q.2
   | some v=>exact .same n.r rfl (hq▸q)
 | exc h1=>
  intro w vs Ai r he hx hp
  cases hx with
  | cons hv hx=>exact(h1 F w _ r (he.set (OV.so (a:=LV.f _) hv) i)).exc
noncomputable def TA(t:TV):Option (List TV):=t.casesOn (fun J=>none) (fun k xs=>k.casesOn (some xs) none (fun J=>none) fun J J=>none) none
theorem Zp{t:TV}{xs:List TV}(e:TA t=some xs):t=.n .lst xs:=by
 cases t with
 | s=>cases e
 | u=>cases e
 | n k ys=>cases k with
  | lst=>cases e;rfl
  | _=>cases e
theorem Ji{a:Nat}{c:Af}(h:H[a]? =some c):stays (.ref a) c H=.ok () H:=Ap h (congrFun (if_pos rfl) H)
theorem O4{a:Nat}{xs:List V}{n:Nat}(h:H[a]? =some (.list xs))(hl:n<=5000)(e:xs.length=n):HJ (.ref a) H=.ok xs H:=Ap h (congrFun (if_pos (CU hl e)) H)
theorem over{l:LV}{v:V}{p:TV×List LC}{xs:List TV}(r:Rl F L w)(h:AF (Gz F L w) w.ρ l v)(hp:fz L l=some p)(hx:TA p.1=some xs):Nx F L w p.2 w/\∃a vs,v=.ref a/\w.H[a]? =some (.list vs)/\Rs (FR (Gz F p.2 w)) xs vs/\xs.length<=5000/\Mw F p.2 w (stays (.ref a) (.list vs)):=by
 obtain⟨n,q⟩:=Gq r h hp
 rw[Zp hx]at q
 cases q with
 | n g1 g2 g3=>exact⟨n,_,_,rfl,DD g1.2,Eo g3,g2,fun H' hh=>Ji (DD (hh _ _ g1))⟩
noncomputable def Wf(m:Mine.Env->M (Option V))(env:AA)(l:LV):Tr Unit LV:=fun J L sc K J=>Xg L l fun t L=>oE (TA t) fun xs=>∀{ys L'},Fs m env xs L ys L'->newL L' ys sc K
theorem ZF{m:Mine.Env->M (Option V)}:AW (P2 RV AF) AF (fun p=>bnd (B6 p.2) fun c=>bnd (HJ p.2) fun xs=>bnd (still (Bx (fun x=>m (p.1++[some x])) (stays p.2 c) xs)) fun ys=>if ys.length<=BR then alloc (.list ys)else bad) fun p=>Wf m p.1 p.2 ():=fun p L sc K X hK hX=>Ay fun q hq=>Ay fun xs hx ys L' ht=>hK _ _ _ fun F w s r hs=>by
 obtain⟨s1,s2⟩:=s
 obtain⟨n,a,vs,e,e1,e2,e3,st⟩:=over r hs.2 hq hx
 cases e
 obtain⟨us,w2,e4,n2,q2⟩:=(QH ht n.r (AI n.l n.p hs.1) e2 st).still
 have hl:=Nat.le_trans (Pa ht) e3
 obtain⟨b,w3,e5,n3,q3⟩:=Rn.newL (m:=if us.length<=BR then alloc (.list us)else bad) n2.r q2 hl (congrFun (if_pos (CU hl q2.len)) w2.H)
 exact⟨b,w3,Ap e1 ((Av (O4 e1 e3 e2.len)).trans ((Av e4).trans e5)),(n.trans n2).trans n3,q3⟩
noncomputable abbrev DX(lo hi:Int):List TV:=(BU lo hi).map .s
theorem NJ{vs:List V}:Rs (FR G) (vs.map .s) vs:=by
 induction vs with
 | nil=>exact .nil
 | cons v vs ih=>exact .cons .s ih
theorem EY{n:Nat}:(BU 0 (n:Int)).length=n:=by unfold BU;simp
noncomputable def Og(m:Mine.Env->M (Option V))(env:AA)(k:LV):Tr Unit LV:=fun J L sc K J=>oE k.i? fun z=>∀{n:Nat},z=(n:Int)->n<=1000->∀{ys L'},Fs m env (DX 0 n) L ys L'->newL L' ys sc K
theorem Se{m:Mine.Env->M (Option V)}:AW (P2 RV AF) AF (fun p=>vI p.2 bad fun n=>if 0<=n/\n<=BR then bnd (still (Bx (fun x=>m (p.1++[some x])) (ret ()) (BU 0 n))) fun ys=>if ys.length<=BR then alloc (.list ys)else bad else bad) fun p=>Og m p.1 p.2 ():=fun p L sc K X hK hX=>Ay fun z hz n hn hl ys L' ht=>hK _ _ _ fun F w s r hs=>by
 obtain⟨s1,s2⟩:=s
 cases EQ hz hs.2
 subst hn
 obtain⟨us,w2,e4,n2,q2⟩:=(QH (post:=ret ()) ht r hs.1 NJ fun J J=>rfl).still
 have hl2:ys.length<=5000:=Nat.le_trans (Pa ht) (by rw[List.length_map,EY];exact Nat.le_trans hl (by decide))
 obtain⟨b,w3,e5,n3,q3⟩:=Rn.newL (m:=if us.length<=BR then alloc (.list us)else bad) n2.r q2 hl2 (congrFun (if_pos (CU hl2 q2.len)) w2.H)
 exact⟨b,w3,(congrFun (if_pos ⟨Int.natCast_nonneg n,Int.ofNat_le.mpr (Nat.le_trans hl (by decide))⟩) w.H).trans ((Av e4).trans e5),n2.trans n3,q3⟩
noncomputable def gW(h:Oc (AA×Option LV)->Prop)(s:Sc)(K:Kt (AA×Option LV))(X:Kt Nat):Prop:=sE s (fun s=>∀{p L},h (.ok p L)->K p L s) (fun s=>∀{m L},h (.exc m L)->X m L s) (fun J=>True) fun J=>True
noncomputable def Wc(B:Mine.Env->M (Mine.Env×Option V))(i:Nat)(env:AA)(k:LV):Tr Unit (AA×Option LV):=fun J L sc K X=>oE k.i? fun z=>∀{n:Nat},z=(n:Int)->n<=1000->gW (DL B i (DX 0 n) env L) sc K X
theorem ZK{B:Mine.Env->M (Mine.Env×Option V)}{i:Nat}:AW (P2 RV AF) HG (fun p=>vI p.2 bad fun n=>if 0<=n/\n<=BR then ER (fun x env=>B (env.set i (some x))) (ret ()) (BU 0 n) p.1 else bad) fun p=>Wc B i p.1 p.2 ():=fun p L sc K X hK hX=>Ay fun z hz n hn hl=>by
 have key:∀{out},DL B i (DX 0 n) p.1 L out->Sm (P2 RV AF) HG (fun p=>vI p.2 bad fun n=>if 0<=n/\n<=BR then ER (fun x env=>B (env.set i (some x))) (ret ()) (BU 0 n) p.1 else bad) p L out:=fun ht F w s r hs=>by
  obtain⟨s1,s2⟩:=s
  cases EQ hz hs.2
  subst hn
  dsimp only
  change Rn F L w (ite _ _ _) HG _
  rw[if_pos ⟨Int.natCast_nonneg n,Int.ofNat_le.mpr (Nat.le_trans hl (by decide))⟩]
  exact NK ht r hs.1 NJ fun J J=>rfl
 exact HL (fun sc p L' h=>hK _ _ _ (key h)) (fun sc m L' h=>hX _ _ _ (key h)) (fun J=>trivial) fun J=>trivial
noncomputable def VV(B:Mine.Env->M (Mine.Env×Option V))(i:Nat)(env:AA)(a b:LV):Tr Unit (AA×Option LV):=fun J L sc K X=>oE a.i? fun x=>oE b.i? fun y=>0<=x->x<=BR->0<=y->y<=BR->∀{p L'},DL B i (DX x y) env L (.ok p L')->K p L' sc
theorem Zc{B:Mine.Env->M (Mine.Env×Option V)}{i:Nat}:AW (P2 (P2 RV AF) AF) HG (fun p=>Ha p.1.2 p.2 fun a z=>if 0<=a/\a<=BR/\0<=z/\z<=BR then still<|ER (fun x env=>B (env.set i (some x))) (ret ()) (BU a z) p.1.1 else bad) fun p=>VV B i p.1.1 p.1.2 p.2 ():=fun p L sc K X hK hX=>Ay fun x hx=>Ay fun y hy h1 h2 h3 h4 p' L' ht=>hK _ _ _ fun F w s r hs=>by
 obtain⟨⟨s1,s2⟩,s3⟩:=s
 cases EQ hx hs.1.2
 cases EQ hy hs.2
 dsimp only
 change Rn F L w (ite _ _ _) HG _
 rw[if_pos ⟨h1,h2,h3,h4⟩]
 exact(NK ht r hs.1.1 NJ fun J J=>rfl).still
noncomputable def WB(B:Mine.Env->M (Mine.Env×Option V))(i:Nat)(env:AA)(l:LV):Tr Unit (AA×Option LV):=fun J L sc K X=>Xg L l fun t L=>oE (TA t) fun xs=>∀{p L'},DL B i xs env L (.ok p L')->K p L' sc
theorem ZL{B:Mine.Env->M (Mine.Env×Option V)}{i:Nat}:AW (P2 RV AF) HG (fun p=>bnd (B6 p.2) fun c=>bnd (HJ p.2) fun xs=>still (ER (fun x env=>B (env.set i (some x))) (stays p.2 c) xs p.1)) fun p=>WB B i p.1 p.2 ():=fun p L sc K X hK hX=>Ay fun q hq=>Ay fun xs hx p' L' ht=>hK _ _ _ fun F w s r hs=>by
 obtain⟨s1,s2⟩:=s
 obtain⟨n,a,vs,e,e1,e2,e3,st⟩:=over r hs.2 hq hx
 cases e
 obtain⟨us,w2,e4,n2,q2⟩:=(NK ht n.r (AI n.l n.p hs.1) e2 st).still
 exact⟨us,w2,Ap e1 ((Av (O4 e1 e3 e2.len)).trans e4),n.trans n2,q2⟩
end
section
variable{α β τ σ ς:Type}{R:Ed σ ς}{rel:Ed τ α}{F:Fm}{L L':List LC}{w:Wd}{G:Nat->Af->Prop}{ρ:List Nat}{H:MH}{Aa:List Int}{d:Nat}{f:Fn}
theorem SP{k:Dz}{fs:List (Nat×V)}(h:fs.length<=(E9 fs).length+1):dm (.inst k fs)=.inst k (E9 fs):=by
 show Bool.rec (motive:=fun J=>Af) (.dictP []) (.inst k (E9 fs)) (Nat.ble fs.length ((E9 fs).length+1))=_
 rw[Nat.ble_eq_true_of_le h]
theorem EX{n:Nat}{v:V}:∀{l:List (Nat×V)},(put n v l).length=l.length+((look n l).rec 1 fun J=>0)
 | []=>rfl
 | p::r=>by
  unfold put
  show(if p.1=n then(n,v)::r else p::put n v r).length=(p::r).length+((if p.1=n then some p.2 else look n r).rec 1 fun J=>0)
  by_cases h:p.1=n
  .rw [if_pos h,if_pos h];rfl
  .rw [if_neg h,if_neg h,List.length_cons,List.length_cons,EX,Nat.add_right_comm]
theorem Ic{n:Nat}{v:V}(hn:n≠3):∀fs:List (Nat×V),E9 (put n v fs)=put n v (E9 fs)
 | []=>List.filter_cons_of_pos (bne_iff_ne.mpr hn)
 | p::r=>by
  have e:∀s:List (Nat×V),put n v (p::s)=if p.1=n then(n,v)::s else p::put n v s:=fun J=>rfl
  have f1:p.1≠3->∀s,E9 (p::s)=p::E9 s:=fun h s=>List.filter_cons_of_pos (bne_iff_ne.mpr h)
  have f2:p.1=3->∀s,E9 (p::s)=E9 s:=fun h s=>List.filter_cons_of_neg (by rw[h];decide)
  rw[e]
  by_cases h3:p.1=3
  .rw [if_neg (by rw[h3];exact Ne.symm hn),f2 h3,f2 h3,Ic hn r]
  .rw [f1 h3,e]
   by_cases h:p.1=n
   .rw [if_pos h,if_pos h];exact List.filter_cons_of_pos (bne_iff_ne.mpr hn)
   .rw [if_neg h,if_neg h,f1 h3,Ic hn r]
theorem I5{v:V}:∀fs:List (Nat×V),E9 (put 3 v fs)=E9 fs/\(look 3 fs=none->E9 fs=fs)
 | []=>⟨rfl,fun J=>rfl⟩
 | p::r=>by
  have ih:=I5 (v:=v) r
  have f1:p.1≠3->∀s,E9 (p::s)=p::E9 s:=fun h s=>List.filter_cons_of_pos (bne_iff_ne.mpr h)
  have f2:p.1=3->∀s,E9 (p::s)=E9 s:=fun h s=>List.filter_cons_of_neg (by rw[h];decide)
  have e:put 3 v (p::r)=if p.1=3 then(3,v)::r else p::put 3 v r:=rfl
  have e2:look 3 (p::r)=if p.1=3 then some p.2 else look 3 r:=rfl
  rw[e,e2]
  by_cases h3:p.1=3
  .rw [if_pos h3,if_pos h3,f2 h3];exact⟨rfl,fun h=>by cases h⟩
  .rw [if_neg h3,if_neg h3,f1 h3,f1 h3];exact⟨congrArg (List.cons p) ih.1,fun h=>congrArg (List.cons p) (ih.2 h)⟩
theorem To{v:V}{fs:List (Nat×V)}(h:fs.length<=(E9 fs).length+1):(put 3 v fs).length<=(E9 (put 3 v fs)).length+1:=by
 have q:=I5 (v:=v) fs
 rw[q.1,EX]
 cases e:look 3 fs with
 | none=>rw[q.2 e];exact Nat.le_refl _
 | some x=>exact h
theorem SZ{n:Nat}{v:V}(hn:n≠3){fs:List (Nat×V)}(h:fs.length<=(E9 fs).length+1):(put n v fs).length<=(E9 (put n v fs)).length+1:=by
 rw[Ic hn,EX,EX,show look n (E9 fs)=look n fs from DG hn fs];exact q5 ‹_›
noncomputable def O6(a:Nat)(v x:LV):Tr Unit Unit:=fun J L sc K J=>(Nat.beq a 3).rec
 (oE x.r? fun i=>oE (L[i]?) fun c=>oE c.i? fun p=>p.rec fun k fs=>bE (Nat.ble (put a v fs).length 90) (K () (L.set i (.ins k (put a v fs))) sc))
 (oE (rd Ct.i? L x) fun J=>K () L sc)
theorem ZH(a:Nat):AW LL RU (fun p=>IB p.2 a p.1) (fun p=>O6 a p.1 p.2 ()):=fun p L sc K X hK hX=>by
 show O6 a p.1 p.2 () L sc K X
 unfold O6
 cases h3:Nat.beq a 3 with
 | true=>
  cases Nat.eq_of_beq_eq_true h3
  exact Ay fun q hq=>hK _ _ _ fun F w s r hs=>by
   obtain⟨s1,s2⟩:=s
   obtain⟨b,fs,e,e1,e2,e3,e4⟩:=eS r hs.2 hq
   cases e
   have lt:=(EK.mp e1).1
   have hl:fs.length < 100:=by have:=e2.len;exact qY ‹_› ‹_› ‹_› (by rfl)
   refine⟨(),⟨w.ρ,w.H.set b (.inst q.1 (ET 3 s1 fs))⟩,Ap e1 (congrFun (if_pos hl) w.H),Ii r (by rw[List.length_set];exact Nat.le_refl _) fun x J=> ?_,trivial⟩
   by_cases hx:x=b
   .subst hx
    rw[EW lt,H9,SP (To e4),(I5 fs).1]
    unfold gd;rw[e1];exact(congrArg some (SP e4)).symm
   .exact Fd hx
 | false=>
  have hn:a≠3:=Nat.ne_of_beq_eq_false h3
  exact Ay fun i hi=>Ay fun c hc=>Ay fun q hq=>Hg fun hl=>hK _ _ _ fun F w s r hs=>by
   obtain⟨s1,s2⟩:=s
   obtain⟨b,eb,e⟩:=St hi hs.2
   cases e
   have hm:=hc.trans (congrArg some (eP hq))
   obtain⟨vs,g1,g2,g3⟩:=r.cells i b _ eb hm
   obtain⟨fs,e1,rfl,e4⟩:=HZ g1
   have hl2:fs.length < 100:=by have:=g2.len;exact qY ‹_› ‹_› ‹_› (by rfl)
   refine⟨(),⟨w.ρ,w.H.set b (.inst q.1 (ET a s1 fs))⟩,Ap e1 (congrFun (if_pos hl2) w.H),Jt r eb hm rfl rfl (by rw[List.length_set];exact Nat.le_refl _) (fun J J h=>Fd h) fun l=> ?_,trivial⟩
   refine⟨put a s1 (E9 fs),?_,(g2.mono (KR.mono fun J J=>AF.mono l (List.prefix_refl _))).put (AF.mono l (List.prefix_refl _) hs.1),BK hl⟩
   rw[EW (r.lt i b eb),H9,SP (SZ hn e4),Ic hn]
noncomputable def WE(v o k:LV):Tr Unit Unit:=fun J L sc K J=>Xg L v fun t L=>oE o.r? fun i=>oE (L[i]?) fun c=>c.l?.rec
 (c.d?.rec (oE c.e? fun kvs=>oE k.i? fun z=>oE (Io z) fun n=>n<=BR->Nat.lt kvs.length 90->K () (L.set i (.dci (put z t kvs))) sc) fun kvs=>oE k.w? fun j=>Nat.lt kvs.length 90->K () (L.set i (.dct (put j t kvs))) sc)
 fun p=>oE k.i? fun z=>oE (Io z) fun n=>p.rec fun b xs=>n < xs.length->K () (L.set i (.lst b (xs.set n t))) sc
theorem ZZ:AW (P2 LL AF) RU (fun p=>Dk p.1.2 p.2 p.1.1) (fun p=>WE p.1.1 p.1.2 p.2 ()):=fun p L sc K X hK hX=>Ay fun q hq=>Ay fun i hi=>Ay fun c hc=>by
 have key:∀{F:Fm} {w:Wd} {s:(V×V)×V},Rl F L w->P2 LL AF (Gz F L w) w.ρ p s->∃b,s.1.2=.ref b/\w.ρ[i]? =some b/\Nx F L w q.2 w/\FR (Gz F q.2 w) q.1 s.1.1:=fun r hs=>
  let⟨b,eb,e⟩:=St hi hs.1.2
  let⟨n,z⟩:=Gq r hs.1.1 hq
  ⟨b,e,eb,n,z⟩
 cases hl:c.l? with
 | some y=>
  have hm:=hc.trans (congrArg some (Ut hl))
  exact Ay fun z hz=>Ay fun n hn Ef=>hK _ _ _ fun F w s r hs=>by
   obtain⟨b,e,eb,nx,f⟩:=key r hs
   obtain⟨⟨s1,s2⟩,s3⟩:=s
   cases e
   cases EQ hz hs.2
   cases J5 hn
   obtain⟨vs,g1,g2,g3⟩:=nx.r.cells i b _ eb hm
   have hlt2:=Ef
   rw[<-g2.len]at Ef
   exact⟨(),⟨w.ρ,w.H.set b (.list (vs.set n s1))⟩,Ap (DD g1) (congrFun (if_pos ⟨Int.natCast_nonneg n,Int.ofNat_lt.mpr Ef,CU g3 g2.len⟩) w.H),nx.trans (GL nx.r eb hm (g2.set f n) (by rw[List.length_set];exact g3)),trivial⟩
 | none=>
  show Option.rec _ _ (c.d?)
  cases hd:c.d? with
  | some kvs=>
   have hm:=hc.trans (congrArg some (Y2 hd))
   exact Ay fun j hj Ef=>hK _ _ _ fun F w s r hs=>by
    obtain⟨b,e,eb,nx,f⟩:=key r hs
    obtain⟨⟨s1,s2⟩,s3⟩:=s
    cases e
    cases JG hj hs.2
    obtain⟨vs,g1,g2,g3⟩:=nx.r.cells i b _ eb hm
    refine⟨(),⟨w.ρ,w.H.set b (.dictW (ET j s1 vs))⟩,Ap (DF g1) (congrFun (if_pos (by rw[g2.len];exact Nat.lt_of_le_of_lt g3 (by decide))) w.H),nx.trans ?_,trivial⟩
    rw[H9]
    exact Tn nx.r eb hm (g2.put f) (Nat.le_trans H6 Ef)
  | none=>
   exact Ay fun kvs he=>Ay fun z hz=>Ay fun n hn hle Ef=>hK _ _ _ fun F w s r hs=>by
    have hm:=hc.trans (congrArg some (dL he))
    obtain⟨b,e,eb,nx,f⟩:=key r hs
    obtain⟨⟨s1,s2⟩,s3⟩:=s
    cases e
    cases EQ hz hs.2
    cases J5 hn
    obtain⟨vs,g1,g2,g3⟩:=nx.r.cells i b _ eb hm
    refine⟨(),⟨w.ρ,w.H.set b (.dictI (L7 n s1 vs))⟩,Ap (Mo g1) (congrFun (if_pos ⟨by rw[g2.len];exact Nat.lt_of_le_of_lt g3 (by decide),Int.natCast_nonneg n,Int.ofNat_le.mpr hle⟩) w.H),nx.trans ?_,trivial⟩
    rw[Ox]
    exact Xp nx.r eb hm (g2.put f) (Nat.le_trans H6 Ef)
noncomputable def Wa(is:List Nat):List TV->AA->Option AA:=is.rec (fun xs env=>xs.casesOn (some env) fun J J=>none) fun i J ih xs env=>xs.casesOn none fun x r=>ih r (env.set i (some (.f x)))
theorem RP{is:List Nat}:∀{xs:List TV} {vs:List V} {env env1:AA} {Ai:Mine.Env},Rs (FR G) xs vs->Rs (OV (AF G ρ)) env Ai->Wa is xs env=some env1->∃e2,En is vs Ai=some e2/\Rs (OV (AF G ρ)) env1 e2:=by
 induction is with
 | nil=>
  intro xs vs env env1 Ai h he e
  cases h with
  | nil=>cases e;exact⟨Ai,rfl,he⟩
  | cons=>cases e
 | cons i is ih=>
  intro xs vs env env1 Ai h he e
  cases h with
  | nil=>cases e
  | cons x h=>exact ih h (he.set (OV.so (a:=LV.f _) x) i) e
noncomputable def WD(is:List Nat)(env:AA)(v:LV):Tr Unit (AA×Option LV):=fun J L sc K J=>oE (rd Ct.t? L v) fun xs=>oE (Wa is xs env) fun env=>K (env,none) L sc
theorem ZJ(is:List Nat):AW (P2 RV AF) HG (fun p=>bnd (B6 p.2) fun c=>cT c bad fun xs=>bnd (Co (En is xs p.1)) fun Ai=>ret (Ai,none)) (fun p=>WD is p.1 p.2 ()):=fun p L sc K X hK hX=>Ay fun xs hx=>Ay fun env he=>AW.same hK fun F w s r hs=>by
 obtain⟨s1,s2⟩:=s
 obtain⟨a,vs,e,e1,e2,e3⟩:=fM r hs.2 hx
 cases e
 obtain⟨e4,e5,e6⟩:=RP e2 hs.1 he
 exact⟨(e4,none),Ap e1 ((Av (Bs e5)).trans rfl),e6,.no⟩
theorem aK{m:ς->M V}{k:Tr σ LV}(h:AW R AF m k):AW R AF (fun s H=>if H[0]? =some .tab then JV (m s) H else .bad) fun x L sc K X=>k x L sc K fun e L sc=>K (sv (.w e)) L sc:=fun x L sc K X hK hX=>by
 have tab:∀{F:Fm} {w:Wd},Rl F L w->w.H[0]? =some .tab:=fun r=>by
  obtain⟨c,e,h⟩:=Jo r.tab
  cases c with
  | tab=>exact e
  | inst k fs=>rcases GI h with h | ⟨h,_⟩<;>cases h
  | _=>cases h
 refine h x L sc _ _ (fun t L' sc' q=>hK _ _ _ fun F w s r hs=> ?_) fun t L' sc' q=>hK _ _ _ fun F w s r hs=> ?_
 .obtain ⟨a,w',e,q⟩:=q F w s r hs
  refine⟨a,w',(if_pos (tab r)).trans ?_,q⟩
  unfold JV;rw[e]
 .obtain ⟨w',e,q⟩:=q F w s r hs
  refine⟨.w t,w',(if_pos (tab r)).trans ?_,q,.s⟩
  unfold JV;rw[e]
end
section
variable{α β τ υ σ ς:Type}{R:Ed σ ς}{rel:Ed τ α}{rel2:Ed υ β}{L L':List LC}
noncomputable abbrev kU(k:Tr σ τ)(p:Tr τ υ):Tr σ υ:=fun x L sc K X=>k x L sc (fun t L sc=>p t L sc K X) X
noncomputable abbrev kB{τ':Type}(k:Tr σ τ)(k':Tr σ τ')(p:τ->τ'->Tr Unit υ):Tr σ υ:=fun x L sc K X=>k x L sc (fun t L sc=>k' x L sc (fun u L sc=>p t u () L sc K X) X) X
noncomputable abbrev kC{γ τ':Type}(k:Tr σ τ)(c:Tr τ γ)(k':Tr σ τ')(p:τ->γ->τ'->Tr Unit υ):Tr σ υ:=fun x L sc K X=>k x L sc (fun t L sc=>c t L sc (fun g L sc=>k' x L sc (fun u L sc=>p t g u () L sc K X) X) X) X
noncomputable def Yd(op:VP)(x y:LV):Tr Unit LV:=fun J L sc K J=>op.casesOn (dY x y L sc fun b sc=>K (bl b) L sc) (dY x y L sc fun b sc=>K (bl !b) L sc)
 (oE x.i? fun i=>oE y.i? fun j=>tE (i < j) sc fun b sc=>K (bl b) L sc) (oE x.i? fun i=>oE y.i? fun j=>tE (i<=j) sc fun b sc=>K (bl b) L sc)
 (oE x.i? fun i=>oE y.i? fun j=>tE (j < i) sc fun b sc=>K (bl b) L sc) (oE x.i? fun i=>oE y.i? fun j=>tE (j<=i) sc fun b sc=>K (bl b) L sc)
 (bP x y L sc fun b sc=>K (bl b) L sc) (bP x y L sc fun b sc=>K (bl !b) L sc)
theorem eH(op:VP):AW LL AF (fun p=>bnd (Tt op p.1 p.2) fun t=>ret (.bool t)) (fun p=>Yd op p.1 p.2 ()):=fun p L sc K X hK hX=>by
 have ord:∀{P:Int->Int->Prop} [∀i j,Decidable (P i j)] {sc},(∀i j H,bnd (Tt op (.int i) (.int j)) (fun t=>ret (V.bool t)) H=.ok (V.bool (decide (P i j))) H)->oE p.1.i? fun i=>oE p.2.i? fun j=>tE (P i j) sc fun b sc=>K (bl b) L sc:=fun h=>Ay fun i hi=>Ay fun j hj=>ZI fun sc=>AW.same hK fun F w s r hs=>by
  obtain⟨s1,s2⟩:=s
  cases EQ hi hs.1;cases EQ hj hs.2
  exact⟨_,h i j w.H,.s⟩
 have one:∀{b:Bool} {c:Bool->Bool} {sc} (e:∀F w x' y',Rl F L w->AF (Gz F L w) w.ρ p.1 x'->AF (Gz F L w) w.ρ p.2 y'->Tt op x' y' w.H=.ok (c b) w.H),K (bl (c b)) L sc:=fun e=>AW.same hK fun F w s r hs=>⟨_,(Av (e F w s.1 s.2 r hs.1 hs.2)).trans rfl,.s⟩
 show Yd op p.1 p.2 () L sc K X
 cases op with
 | eq=>exact fV (k:=fun b sc=>K (bl b) L sc) fun b sc h=>one (c:=id) fun F w x' y' r h1 h2=>Bs (h F w x' y' r h1 h2)
 | ne=>exact fV (k:=fun b sc=>K (bl !b) L sc) fun b sc h=>one (c:=not) fun F w x' y' r h1 h2=>(Av (Bs (h F w x' y' r h1 h2))).trans rfl
 | lt=>exact ord (P:=fun i j=>i < j) fun J J J=>rfl
 | le=>exact ord (P:=fun i j=>i<=j) fun J J J=>rfl
 | gt=>exact ord (P:=fun i j=>j < i) fun J J J=>rfl
 | ge=>exact ord (P:=fun i j=>j<=i) fun J J J=>rfl
 | isin=>exact eZ (k:=fun b sc=>K (bl b) L sc) fun b sc h=>one (c:=id) h
 | notin=>exact eZ (k:=fun b sc=>K (bl !b) L sc) fun b sc h=>one (c:=not) fun F w x' y' r h1 h2=>(Av (h F w x' y' r h1 h2)).trans rfl
variable(Aa:List Int)(oc:Fn->Option (Tr (List LV) LV))(bw:Fn->Option Nat)(d:Nat)
noncomputable def LY(f:Fn):Tr (List LV) LV:=(oc f).rec ((bw f).rec (S0 Aa d f) (SL Aa d f)) id
noncomputable abbrev Wz(elt:ME Fn)(env:Mine.Env):M (Option V):=bnd (Ac (CS Aa d) elt env) fun y=>ret (some y)
noncomputable abbrev bF(elt cond:ME Fn)(env:Mine.Env):M (Option V):=bnd (Ac (CS Aa d) cond env) fun c=>bnd (AG c) fun t=>if t then bnd (Ac (CS Aa d) elt env) fun y=>ret (some y)else ret none
noncomputable abbrev cC(m:Mine.Env->M V):Tr AA LV:=fun env L sc K J=>∀{t L'},Sm RV AF m env L (.ok t L')->K t L' sc
noncomputable abbrev aM:Tr AA LV:=fun J L sc K J=>K (.r L.length) (L++[.dct []]) sc
mutual
noncomputable def RE:ME Fn->Tr AA LV
 | .O i=>Xf i
 | .cst v=>fun J L sc K J=>K (sv v) L sc
 | .usub k=>fun J L sc K J=>K (il (-(k:Int))) L sc
 | .gmax=>fun J L sc K J=>K (il 1000000) L sc
 | .attr e a=>kU (RE e) (Te a)
 | .idx e i=>kB (RE e) (RE i) UW
 | .cutTo e k=>kB (RE e) (RE k) (Q2 Aa)
 | .cutFrom e k=>kB (RE e) (RE k) Lw
 | .bin op a b=>kB (RE a) (RE b) (Ug op)
 | .cmp op a b=>kB (RE a) (RE b) (Yd op)
 | .isNone n e=>kU (RE e) (QW n)
 | .inW n e ws=>kU (RE e) (X5 n ws)
 | .and2 a b=>fun env L sc K X=>RE a env L sc (fun x L sc=>oE x.b? fun t=>t.rec (K x L sc) (RE b env L sc K X)) X
 | .or2 a b=>fun env L sc K X=>RE a env L sc (fun x L sc=>oE x.b? fun t=>t.rec (RE b env L sc K X) (K x L sc)) X
 | .not a=>kU (RE a) WT
 | .ite c a b=>fun env L sc K X=>RE c env L sc (fun x L sc=>oE x.b? fun t=>t.rec (RE b env L sc K X) (RE a env L sc K X)) X
 | .lst es=>kU (YM es) W2
 | .tup es=>kU (YM es) WO
 | .dct0=>aM
 | .dct0I=>fun J L sc K J=>K (.r L.length) (L++[.dci []]) sc
 | .dct1 n e=>kB aM (RE e) (Wu n)
 | .call f es=>kU (YM es) (LY Aa oc bw d f)
 | .mk c es=>kU (YM es) (dZ d c)
 | .len e=>kU (RE e) YD
 | .listOf e=>kU (RE e) Lk
 | .dictOf e=>kU (RE e) KU
 | .strOf e=>kU (RE e) Xz
 | .max2 a b=>kB (RE a) (RE b) aP
 | .isV e=>kU (RE e) TQ
 | .isT e t=>kU (RE e) (bO t)
 | .append o e=>kC (RE o) Qs (RE e) fun x J y=>ZU x y
 | .extend o e=>kC (RE o) Qs (RE e) fun x J y=>XG x y
 | .pop o=>kU (RE o) YG
 | .reverse o=>kU (RE o) Yu
 | .index o e=>kC (RE o) We (RE e) Sf
 | .get1 o k=>kC (RE o) Sy (RE k) fun x J y=>Xn x y (sv .none)
 | .get2 o k e=>fun env L sc K X=>RE o env L sc (fun x L sc=>Sy x L sc (fun J L sc=>RE k env L sc (fun y L sc=>RE e env L sc (fun z L sc=>Xn x y z () L sc K X) X) X) X) X
 | .starts o k=>kC (RE o) Ww (RE k) fun x J y=>Pb x y
 | .mcall o f=>fun env L sc K X=>RE o env L sc (fun x L sc=>TQ x L sc (fun J L sc=>LY Aa oc bw d f [x] L sc K X) X) X
 | .comp e it=>fun env L sc K X=>RE it env L sc (fun l L sc=>Wf (Wz Aa d e) env l () L sc K X) X
 | .compR e n=>fun env L sc K X=>RE n env L sc (fun l L sc=>Og (Wz Aa d e) env l () L sc K X) X
 | .compIf e c n=>fun env L sc K X=>RE n env L sc (fun l L sc=>Og (bF Aa d e c) env l () L sc K X) X
 | .dcomp v it=>cC (Ac (CS Aa d) (.dcomp v it))
 | .kept e=>fun env L sc K X=>RE e env L sc K fun m L sc=>K (sv (.w m)) L sc
 | .bad=>fun J J J J J=>True
noncomputable def YM:List (ME Fn)->Tr AA (List LV)
 | []=>fun J L sc K J=>K [] L sc
 | e::r=>fun env L sc K X=>RE e env L sc (fun v L sc=>YM r env L sc (fun vs L sc=>K (v::vs) L sc) X) X
end
theorem Cg:FN (P2 RV AF):=CY AI DT
theorem V0(hoc:∀f k,oc f=some k->AW RA AF (HO Aa d f) k)(f:Fn):AW RA AF (HO Aa d f) (LY Aa oc bw d f):=by
 unfold LY
 cases h:oc f with
 | some k=>exact hoc f k h
 | none=>cases bw f with
  | none=>exact WS
  | some j=>exact WM
theorem EM{m:ς->M α}{k:Tr σ τ}{S:Ed υ β}(h:AW R rel m k):AW (P2 R S) rel (fun p=>m p.1) fun p=>k p.1:=Cu (g:=Prod.fst) (g':=Prod.fst) h fun h=>h.1
theorem U0{f:α->M β}{k:Tr τ υ}(h:AW rel rel2 f k):AW (P2 R rel) rel2 (fun p=>f p.2) fun p=>k p.2:=Cu (g:=Prod.snd) (g':=Prod.snd) h fun h=>h.2
theorem Wt:AW (P2 R rel) rel (fun p=>ret p.2) fun p L sc K J=>K p.2 L sc:=fun p L sc K X hK hX=>AW.same hK fun F w s r hs=>⟨s.2,rfl,hs.2⟩
theorem M1{f:α->M β}{k2:Tr τ υ}{m:Mine.Env->M α}{k:Tr AA τ}(h:AW RV rel m k)(h2:AW rel rel2 f k2):AW RV rel2 (fun s=>bnd (m s) f) (kU k k2):=XM (k2:=k2) AI h h2
theorem Xb{m m':Mine.Env->M V}{k k':Tr AA LV}{f:V->V->M β}{p:LV->LV->Tr Unit υ}(h:AW RV AF m k)(h':AW RV AF m' k')(h2:AW LL rel2 (fun p=>f p.1 p.2) fun q=>p q.1 q.2 ()):AW RV rel2 (fun s=>bnd (m s) fun x=>bnd (m' s) fun y=>f x y) (kB k k' p):=Uv AI DT h h' (k2:=fun t u=>p t u ()) h2
theorem Fy:FN RU:=fun J J J J J=>trivial
theorem Uy:FN RB:=fun J J J J h=>h
theorem Y8{γ δ:Type}{relc:Ed γ δ}{m m':Mine.Env->M V}{k k':Tr AA LV}{c:V->M δ}{kc:Tr LV γ}{f:V->δ->V->M β}{p:LV->γ->LV->Tr Unit υ}(mc:FN relc)(h:AW RV AF m k)(hc:AW AF relc c kc)(h':AW RV AF m' k')(h2:AW (P2 (P2 AF relc) AF) rel2 (fun p=>f p.1.1 p.1.2 p.2) fun q=>p q.1.1 q.1.2 q.2 ()):
  AW RV rel2 (fun s=>bnd (m s) fun x=>bnd (c x) fun z=>bnd (m' s) fun y=>f x z y) (kC k kc k' p):=TO AI DT mc h hc h' (k2:=fun t g u=>p t g u ()) h2
theorem SR{f:V×V->M β}{k:Tr (LV×LV) υ}(h:AW LL rel2 f k):AW (P2 (P2 AF RU) AF) rel2 (fun p=>f (p.1.1,p.2)) fun p=>k (p.1.1,p.2):=Cu (R':=P2 (P2 AF RU) AF) (g:=fun p:(V×Unit)×V=>(p.1.1,p.2)) (g':=fun p:(LV×Unit)×LV=>(p.1.1,p.2)) h fun h=>⟨h.1.1,h.2⟩
theorem Za:AW (P2 (P2 RV AF) RA) RA (fun p=>ret (p.1.2::p.2)) fun p L sc K J=>K (p.1.2::p.2) L sc:=fun p L sc K X hK hX=>AW.same hK fun F w s r hs=>⟨s.1.2::s.2,rfl,.cons hs.1.2 hs.2⟩
theorem ML(hoc:∀f k,oc f=some k->AW RA AF (HO Aa d f) k)(e:ME Fn):AW RV AF (Ac (CS Aa d) e) (RE Aa oc bw d e):=
 ME.rec (F:=Fn) (motive_1:=fun e=>AW RV AF (Ac (CS Aa d) e) (RE Aa oc bw d e)) (motive_2:=fun es=>AW RV RA (Et (CS Aa d) es) (YM Aa oc bw d es))
  Y6 Yb (fun k=>Yb (.int (-(k:Int)))) (Yb (.int 1000000))
  (fun J a h=>M1 (k2:=Te a) h (ZQ a)) (fun J J h h'=>Xb h h' cR) (fun J J h h'=>Xb h h' (W3 Aa)) (fun J J h h'=>Xb h h' QY)
  (fun op J J h h'=>Xb h h' (eM op)) (fun op J J h h'=>Xb h h' (eH op)) (fun n J h=>M1 (k2:=QW n) h (Zx n)) (fun n J ws h=>M1 (k2:=X5 n ws) h (cM n ws))
  (fun J J h h'=>Aw AI h (bJ (EM h') Wt)) (fun J J h h'=>Aw AI h (bJ Wt (EM h'))) (fun J h=>M1 (k2:=WT) h dC)
  (fun J J J hc ha hb=>Aw AI hc (bJ (EM ha) (EM hb)))
  (fun J h=>M1 (k2:=W2) h cF) (fun J h=>M1 (k2:=WO) h bT) Wx YA (fun n J h=>Xb Wx h (ZG n)) (fun f J h=>M1 (k2:=LY Aa oc bw d f) h (V0 Aa oc bw d hoc f)) (fun c J h=>M1 (k2:=dZ d c) h (gX c))
  (fun J h=>M1 (k2:=YD) h cW) (fun J h=>M1 (k2:=Lk) h U7) (fun J h=>M1 (k2:=KU) h VG) (fun J h=>M1 (k2:=Xz) h cP) (fun J J h h'=>Xb h h' dN) (fun J h=>M1 (k2:=TQ) h Y9) (fun J t h=>M1 (k2:=bO t) h (gF t))
  (fun J J h h'=>Y8 Fy h Wg h' (SR cI)) (fun J J h h'=>Y8 Fy h Wg h' (SR ZV)) (fun J h=>M1 (k2:=YG) h eL) (fun J h=>M1 (k2:=Yu) h eR)
  (fun J J h h'=>Y8 Uy h aA h' XY)
  (fun J J h h'=>Y8 Fy h VZ h' (Cu (R':=P2 (P2 AF RU) AF) (g:=fun p:(V×Unit)×V=>((p.1.1,p.2),V.none)) (g':=fun p:(LV×Unit)×LV=>((p.1.1,p.2),sv .none)) ZM fun h=>⟨⟨h.1.1,h.2⟩,.s⟩))
  (fun J J J h h' h2=>Aw AI h (Aw Cg (U0 VZ) (Aw (CY Cg Fy) (EM (EM h')) (Aw (CY (CY Cg Fy) DT) (EM (EM (EM h2)))
   (Cu (R':=P2 (P2 (P2 (P2 RV AF) RU) AF) AF) (g:=fun p:(((Mine.Env×V)×Unit)×V)×V=>((p.1.1.1.2,p.1.2),p.2)) (g':=fun p:(((AA×LV)×Unit)×LV)×LV=>((p.1.1.1.2,p.1.2),p.2)) ZM fun h=>⟨⟨h.1.1.1.2,h.1.2⟩,h.2⟩)))))
  (fun J J h h'=>Y8 Fy h Z0 h' (SR T0))
  (fun J f h=>Aw AI h (Aw Cg (U0 Y9) (EM (Cu (R':=P2 RV AF) (g:=fun p:Mine.Env×V=>[p.2]) (g':=fun p:AA×LV=>[p.2]) (V0 Aa oc bw d hoc f) fun h=> .cons h.2 .nil))))
  (fun e J J h=>Aw AI h (ZF (m:=Wz Aa d e))) (fun e J J h=>Aw AI h (Se (m:=Wz Aa d e))) (fun e c J J J h=>Aw AI h (Se (m:=bF Aa d e c)))
  (fun J J J J=>fun env L sc K X hK hX t L' h=>hK t L' sc h)
  (fun J h=>aK h)
  (fun J J J J J J J=>trivial)
  (fun env L sc K X hK hX=>AW.same hK fun F w s r hs=>⟨[],rfl,.nil⟩)
  (fun J J h h'=>Aw AI h (Aw Cg (EM h') Za)) e
end
section
variable{α β τ υ σ ς:Type}{R:Ed σ ς}{rel:Ed τ α}{rel2:Ed υ β}{L L':List LC}
variable(Aa:List Int)(oc:Fn->Option (Tr (List LV) LV))(bw:Fn->Option Nat)(d:Nat)
noncomputable abbrev KS:Type:=Tr AA (AA×Option LV)
noncomputable def PA{α:Type}(l:List α):(List α->Prop)->Prop:=l.rec (fun k=>k []) fun a J ih k=>ih fun r=>k (a::r)
theorem Fj{α:Type}:∀{l:List α} {k:List α->Prop},k l->PA l k
 | [],_,h=>h
 | a::l,k,h=>Fj (l:=l) (k:=fun r=>k (a::r)) h
mutual
noncomputable def RS:MS Fn->KS
 | .asg i e=>fun env L sc K X=>RE Aa oc bw d e env L sc (fun v L sc=>K (env.set i (some v),none) L sc) X
 | .asgT is e=>fun env L sc K X=>RE Aa oc bw d e env L sc (fun v L sc=>WD is env v () L sc K X) X
 | .setA o a e=>fun env L sc K X=>RE Aa oc bw d e env L sc (fun v L sc=>RE Aa oc bw d o env L sc (fun x L sc=>O6 a v x () L sc (fun J L sc=>K (env,none) L sc) X) X) X
 | .setI o k e=>fun env L sc K X=>RE Aa oc bw d e env L sc (fun v L sc=>RE Aa oc bw d o env L sc (fun x L sc=>RE Aa oc bw d k env L sc (fun y L sc=>WE v x y () L sc (fun J L sc=>K (env,none) L sc) X) X) X) X
 | .augL i e=>fun env L sc K X=>Xf i env L sc (fun o L sc=>RE Aa oc bw d e env L sc (fun v L sc=>XG o v () L sc (fun J L sc=>K (env,none) L sc) X) X) X
 | .ex e=>fun env L sc K X=>RE Aa oc bw d e env L sc (fun J L sc=>K (env,none) L sc) X
 | .ret e=>fun env L sc K X=>RE Aa oc bw d e env L sc (fun v L sc=>K (env,some v) L sc) X
 | .ret0=>fun env L sc K J=>K (env,some (sv .none)) L sc
 | .ifs c t e=>fun env L sc K X=>RE Aa oc bw d c env L sc (fun x L sc=>oE x.b? fun b=>b.rec (WC e env L sc K X) (WC t env L sc K X)) X
 | .forN i n b=>fun env L sc K X=>RE Aa oc bw d n env L sc (fun k L sc=>Wc (Ak (CS Aa d) b) i env k () L sc K X) X
 | .forR i lo hi b=>fun env L sc K X=>RE Aa oc bw d lo env L sc (fun x L sc=>RE Aa oc bw d hi env L sc (fun y L sc=>VV (Ak (CS Aa d) b) i env x y () L sc K X) X) X
 | .forE i it b=>fun env L sc K X=>RE Aa oc bw d it env L sc (fun l L sc=>WB (Ak (CS Aa d) b) i env l () L sc K X) X
 | .forD i it b=>fun env L sc K J=>∀{p L'},Sm RV HG (E6 (CS Aa d) (.forD i it b)) env L (.ok p L')->K p L' sc
 | .raise m=>fun J L sc J X=>X m L sc
 | .bad=>fun J J J J J=>True
noncomputable def WC:List (MS Fn)->KS
 | []=>fun env L sc K J=>K (env,none) L sc
 | s::r=>fun env L sc K X=>RS s env L sc (fun p L sc=>p.rec fun e o=>o.rec (PA e fun env=>PA L fun L=>WC r env L sc K X) fun v=>K (e,some v) L sc) X
end
theorem La{g:ς->Mine.Env×Option V}{g':σ->AA×Option LV}(h:∀{G ρ x s},R G ρ x s->HG G ρ (g' x) (g s)):AW R HG (fun s=>ret (g s)) fun x L sc K J=>K (g' x) L sc:=fun p L sc K X hK hX=>AW.same hK fun F w s r hs=>⟨g s,rfl,h hs⟩
theorem Y5{m:Mine.Env->M (Mine.Env×Option V)}{k:KS}(h:AW RV HG m k):AW HG HG (fun p=>match p.2 with | some v=>ret (p.1,some v) | none=>m p.1) fun p L sc K X=>p.rec fun e o=>o.rec (PA e fun env=>PA L fun L=>k env L sc K X) fun v=>K (e,some v) L sc:=fun p L sc K X hK hX=>by
 obtain⟨env,o⟩:=p
 cases o with
 | none=>
  refine Fj (Fj (h env L sc K X (fun t L' sc' q=>hK t L' sc' fun F w s r hs=> ?_) fun t L' sc' q=>hX t L' sc' fun F w s r hs=> ?_))<;>
  .obtain ⟨s1,s2⟩:=s
   have hs2:=hs.2
   cases hs2
   exact q F w s1 r hs.1
 | some v=>
  exact AW.same hK fun F w s r hs=>by
   obtain⟨s1,s2⟩:=s
   have hs2:=hs.2
   cases hs2 with
   | so q=>exact⟨(s1,some _),rfl,hs.1,.so q⟩
theorem cX{m1 m2:Mine.Env->M (Mine.Env×Option V)}{k1 k2:KS}(h1:AW RV HG m1 k1)(h2:AW RV HG m2 k2):AW (P2 RV AF) HG (fun p=>bnd (AG p.2) fun t=>if t then m1 p.1 else m2 p.1) fun p L sc K X=>oE p.2.b? fun b=>b.rec (k2 p.1 L sc K X) (k1 p.1 L sc K X):=bJ (EM h1) (EM h2)
theorem Y1(hoc:∀f k,oc f=some k->AW RA AF (HO Aa d f) k)(s:MS Fn):AW RV HG (E6 (CS Aa d) s) (RS Aa oc bw d s):=
 have E:=ML Aa oc bw d hoc
 MS.rec (F:=Fn) (motive_1:=fun s=>AW RV HG (E6 (CS Aa d) s) (RS Aa oc bw d s)) (motive_2:=fun s=>AW RV HG (Ak (CS Aa d) s) (WC Aa oc bw d s))
  (fun i e=>Aw AI (E e) (La (g:=fun p:Mine.Env×V=>(p.1.set i (some p.2),none)) (g':=fun p:AA×LV=>(p.1.set i (some p.2),none)) fun h=>⟨h.1.set (.so h.2) i,.no⟩))
  (fun is e=>Aw AI (E e) (ZJ is))
  (fun o a e=>Aw AI (E e) (Aw Cg (EM (E o)) (Aw (CY Cg DT) (Cu (R':=P2 (P2 RV AF) AF) (g:=fun p:(Mine.Env×V)×V=>(p.1.2,p.2)) (g':=fun p:(AA×LV)×LV=>(p.1.2,p.2)) (ZH a) fun h=>⟨h.1.2,h.2⟩) (La (g:=fun p:((Mine.Env×V)×V)×Unit=>(p.1.1.1,none)) (g':=fun p:((AA×LV)×LV)×Unit=>(p.1.1.1,none)) fun h=>⟨h.1.1.1,.no⟩))))
  (fun o k e=>Aw AI (E e) (Aw Cg (EM (E o)) (Aw (CY Cg DT) (EM (EM (E k))) (Aw (CY (CY Cg DT) DT) (Cu (R':=P2 (P2 (P2 RV AF) AF) AF) (g:=fun p:((Mine.Env×V)×V)×V=>((p.1.1.2,p.1.2),p.2)) (g':=fun p:((AA×LV)×LV)×LV=>((p.1.1.2,p.1.2),p.2)) ZZ fun h=>⟨⟨h.1.1.2,h.1.2⟩,h.2⟩) (La (g:=fun p:(((Mine.Env×V)×V)×V)×Unit=>(p.1.1.1.1,none)) (g':=fun p:(((AA×LV)×LV)×LV)×Unit=>(p.1.1.1.1,none)) fun h=>⟨h.1.1.1.1,.no⟩)))))
  (fun i e=>Aw AI (Y6 i) (Aw Cg (EM (E e)) (Aw (CY Cg DT) (Cu (R':=P2 (P2 RV AF) AF) (g:=fun p:(Mine.Env×V)×V=>(p.1.2,p.2)) (g':=fun p:(AA×LV)×LV=>(p.1.2,p.2)) ZV fun h=>⟨h.1.2,h.2⟩) (La (g:=fun p:((Mine.Env×V)×V)×V=>(p.1.1.1,none)) (g':=fun p:((AA×LV)×LV)×LV=>(p.1.1.1,none)) fun h=>⟨h.1.1.1,.no⟩))))
  (fun e=>Aw AI (E e) (La (g:=fun p:Mine.Env×V=>(p.1,none)) (g':=fun p:AA×LV=>(p.1,none)) fun h=>⟨h.1,.no⟩))
  (fun e=>Aw AI (E e) (La (g:=fun p:Mine.Env×V=>(p.1,some p.2)) (g':=fun p:AA×LV=>(p.1,some p.2)) fun h=>⟨h.1,.so h.2⟩))
  (La (g:=fun p:Mine.Env=>(p,some V.none)) (g':=fun p:AA=>(p,some (sv .none))) fun h=>⟨h,.so .s⟩)
  (fun c J J h1 h2=>Aw AI (E c) (cX h1 h2))
  (fun i n b J=>Aw AI (E n) (ZK (B:=Ak (CS Aa d) b) (i:=i)))
  (fun i lo hi b J=>Aw AI (E lo) (Aw Cg (EM (E hi)) (Zc (B:=Ak (CS Aa d) b) (i:=i))))
  (fun i it b J=>Aw AI (E it) (ZL (B:=Ak (CS Aa d) b) (i:=i)))
  (fun i it b J=>fun env L sc K X hK hX p L' h=>hK p L' sc h)
  (fun m=>fun env L sc K X hK hX=>hX m L sc fun F w s r hs=>⟨w,rfl,.refl r⟩)
  (fun J J J J J J J=>trivial)
  (La (g:=fun p:Mine.Env=>(p,none)) (g':=fun p:AA=>(p,none)) fun h=>⟨h,.no⟩)
  (fun J J h h'=>Aw AI h (U0 (Y5 h'))) s
theorem Kx(hoc:∀f k,oc f=some k->AW RA AF (HO Aa d f) k):∀s:List (MS Fn),AW RV HG (Ak (CS Aa d) s) (WC Aa oc bw d s)
 | []=>La (g:=fun p:Mine.Env=>(p,none)) (g':=fun p:AA=>(p,none)) fun h=>⟨h,.no⟩
 | s::r=>Aw AI (Y1 Aa oc bw d hoc s) (U0 (Y5 (Kx hoc r)))
end
theorem dS{j:Nat}(h:j < 1):j=0:=Nat.lt_one_iff.mp h
theorem Qk{j:Nat}(h:j < 2):j=0\/j=1:=(Nat.lt_succ_iff_lt_or_eq.mp h).imp dS id
theorem aX{j:Nat}(h:j < 3):j=0\/j=1\/j=2:=(Nat.lt_succ_iff_lt_or_eq.mp h).elim (fun h=>(Qk h).imp id .inl) fun h=> .inr (.inr h)
theorem bI{j:Nat}(h:j < 4):j=0\/j=1\/j=2\/j=3:=(Nat.lt_succ_iff_lt_or_eq.mp h).elim (fun h=>(aX h).imp id fun h=>h.imp id .inl) fun h=> .inr (.inr (.inr h))
theorem fO{j:Nat}(h:j < 5):j=0\/j=1\/j=2\/j=3\/j=4:=(Nat.lt_succ_iff_lt_or_eq.mp h).elim (fun h=>(bI h).imp id fun h=>h.imp id fun h=>h.imp id .inl) fun h=> .inr (.inr (.inr (.inr h)))
theorem hO{j:Nat}(h:j < 6):j=0\/j=1\/j=2\/j=3\/j=4\/j=5:=(Nat.lt_succ_iff_lt_or_eq.mp h).elim (fun h=>(fO h).imp id fun h=>h.imp id fun h=>h.imp id fun h=>h.imp id .inl) fun h=> .inr (.inr (.inr (.inr (.inr h))))
theorem Zt{j:Nat}(h:j < 3):j<=1\/j=2:=(Nat.lt_succ_iff_lt_or_eq.mp h).imp Nat.le_of_lt_succ id
theorem dE{j:Nat}(h:j < 5):j<=1\/j=2\/j=3\/j=4:=(Nat.lt_succ_iff_lt_or_eq.mp h).elim (fun h=>(Nat.lt_succ_iff_lt_or_eq.mp h).elim (fun h=>(Zt h).imp id .inl) fun h=> .inr (.inr (.inl h))) fun h=> .inr (.inr (.inr h))
theorem eG{j:Nat}(h:j < 6):j=4\/j=5\/(j=0\/j=1\/j=2\/j=3):=(Nat.lt_succ_iff_lt_or_eq.mp h).elim (fun h=>(Nat.lt_succ_iff_lt_or_eq.mp h).elim (fun h=> .inr (.inr (bI h))) .inl) fun h=> .inr (.inl h)
theorem fY{j n:Nat}(h:j < n)(hn:n<=1000):0<=(j:Int)/\(j:Int)<=100000:=⟨Int.natCast_nonneg j,Int.ofNat_le.mpr (Nat.le_trans (Nat.le_of_lt h) (Nat.le_trans hn (by decide)))⟩
theorem aN{j n:Nat}(h:j < n)(hn:n<=1000):j<=1000:=Nat.le_trans (Nat.le_of_lt h) hn
noncomputable def aa(n:Nat)(s:Sc):Sc:=n.rec s fun J r=> .a r
noncomputable def eF:Fn->Bool
 | .AU | .Il | .Cs | .CL | .Cp | .DH | .BD | .Dv=>true
 | _=>false
noncomputable def bw:Fn->Option Nat
 | .Ao | .BO | .AX | .CP=>some 0
 | .Bg=>some 3
 | _=>none
section
variable{α β τ υ σ ς:Type}{R:Ed σ ς}{rel:Ed τ α}{rel2:Ed υ β}{L L':List LC}{F:Fm}{w:Wd}{G:Nat->Af->Prop}{ρ:List Nat}
variable(Aa:List Int)
noncomputable def RF(oc:Fn->Option (Tr (List LV) LV))(d:Nat)(f:Fn):Tr (List LV) LV:=fun vs L sc K X=>bE (Nat.beq vs.length (prog f).params) (bE (prog f).dflt.isEmpty
 (PA (vs.map some++List.replicate ((prog f).vars - (prog f).params) none) fun env=>PA L fun L=>WC Aa oc bw d (prog f).body env L sc (fun p L sc=>p.rec fun J o=>o.rec (K (sv .none) L sc) fun v=>K v L sc) X))
theorem Lg{vs:List LV}{s:List V}(h:Rs (AF G ρ) vs s)(n:Nat):Rs (OV (AF G ρ)) (vs.map some++List.replicate n none) (s.map some++List.replicate n none):=by
 induction h with
 | nil=>exact .rep .no n
 | cons x _ ih=>exact .cons (.so x) ih
theorem sF{oc:Fn->Option (Tr (List LV) LV)}{d:Nat}(hoc:∀f k,oc f=some k->AW RA AF (HO Aa d f) k)(f:Fn):AW RA AF (HO Aa (d+1) f) (RF Aa oc d f):=fun vs L sc K X hK hX=>Hg fun hl=>Hg fun hd=>by
 have hd:(prog f).dflt=[]:=List.isEmpty_iff.mp hd
 have ev:∀{F:Fm} {w:Wd} {s:List V},RA (Gz F L w) w.ρ vs s->HO Aa (d+1) f s=bnd (Ak (CS Aa d) (prog f).body (s.map some++List.replicate ((prog f).vars - (prog f).params) none)) fun p=>ret (p.2.getD .none):=fun hs=>Kq (hs.len.trans (Nat.eq_of_beq_eq_true hl)) hd
 refine Fj (Fj (Kx Aa oc bw d hoc (prog f).body _ L sc _ _ (fun p L' sc' h=> ?_) fun m L' sc' h=>hX _ _ _ (Sm.of ev fun F w s r hs=>(h F w _ r (Lg hs _)).exc)))
 obtain⟨p1,p2⟩:=p
 have go:∀{v:LV},(∀{G ρ o},OR (AF G ρ) p2 o->AF G ρ v (o.getD .none))->K v L' sc':=fun hv=>hK _ _ _ (Sm.of ev fun F w s r hs=>(h F w _ r (Lg hs _)).bnd fun w1 q n z=> .same n.r rfl (hv z.2))
 cases p2 with
 | none=>exact go fun h=>by cases h;exact .s
 | some v=>exact go fun h=>by cases h with | so q=>exact q
noncomputable def OC(d:Nat):Fn->Option (Tr (List LV) LV):=d.rec (fun J=>none) fun d ih f=>(eF f).rec none (some (RF Aa ih d f))
theorem HF:∀(d:Nat) (f:Fn) (k:Tr (List LV) LV),OC Aa d f=some k->AW RA AF (HO Aa d f) k
 | 0,_,_,h=>by cases h
 | d+1,f,k,h=>by
  have h:(eF f).rec none (some (RF Aa (OC Aa d) d f))=some k:=h
  cases e:eF f with
  | false=>rw[e]at h;cases h
  | true=>rw[e]at h;cases h;exact sF Aa (HF d) f
noncomputable def OM(n:Nat)(L:List LC)(k:List LC->Prop):Prop:=bE ((L.take n).all (LC.lo n)) (bE ((L.drop n).all fun c=> !c.bor) (k (L.take n)))
theorem GU{n:Nat}{k:List LC->Prop}(h:(L.take n).all (LC.lo n)=true->(L.drop n).all (fun c=> !c.bor)=true->k (L.take n)):OM n L k:=Hg fun a=>Hg fun b=>h a b
theorem I4{L1:List LC}{w1:Wd}(n:Nx F L w L1 w1)(r:Rl F L w)(h1:(L1.take L.length).all (LC.lo L.length)=true)(h2:(L1.drop L.length).all (fun c=> !c.bor)=true):Nx F L w (L1.take L.length) ⟨w1.ρ.take L.length,w1.H⟩/\Le (Gz F L1 w1) (Gz F (L1.take L.length) ⟨w1.ρ.take L.length,w1.H⟩):=
 let⟨r2,l⟩:=OE n.r h1 h2
 ⟨⟨r2,(by
  obtain⟨t,e⟩:=n.p
  show w.ρ <+:w1.ρ.take L.length
  rw[<-e,<-r.len,List.take_left];exact List.prefix_refl _),fun a c h=>l a c (n.l a c h)⟩,l⟩
theorem Sm.fin{m:ς->M V}{x:σ}{v:LV}{t:TV}{L1 L2:List LC}(h:Sm R AF m x L (.ok v L1))(hf:fz L1 v=some (t,L2))(h1:(L2.take L.length).all (LC.lo L.length)=true)(h2:(L2.drop L.length).all (fun c=> !c.bor)=true):Sm R RT m x L (.ok t (L2.take L.length)):=fun F w s r hs=>
 let⟨a,w1,e,n,q⟩:=h F w s r hs
 let⟨n2,z⟩:=Gq n.r q hf
 let⟨n3,l⟩:=I4 (n.trans n2) r h1 h2
 ⟨a,⟨w1.ρ.take L.length,w1.H⟩,e,n3,FR.mono l z⟩
theorem Sm.finX{m:ς->M α}{x:σ}{i:Nat}{L1:List LC}(h:Sm R rel m x L (.exc i L1))(h1:(L1.take L.length).all (LC.lo L.length)=true)(h2:(L1.drop L.length).all (fun c=> !c.bor)=true){rel':Ed υ α}:Sm R rel' m x L (.exc i (L1.take L.length)):=fun F w s r hs=>
 let⟨w1,e,n⟩:=h F w s r hs
 ⟨⟨w1.ρ.take L.length,w1.H⟩,e,(I4 n r h1 h2).1⟩
noncomputable abbrev Yz(L:List LC)(k:TV->List LC->Prop)(v:LV)(L1:List LC):Prop:=Xg L1 v fun t L2=>OM L.length L2 fun L3=>k t L3
noncomputable abbrev RG(d:Nat)(f:Fn)(args:List LV)(L:List LC)(sc:Sc):Prop:=RF Aa (OC Aa d) d f args L sc (fun v L1 J=>Yz L (fun t L2=>TR Aa (d+1) f args L (.ok t L2)) v L1) fun m L1 J=>OM L.length L1 fun L2=>TR Aa (d+1) f args L (.exc m L2)
theorem QF{Aa:List Int}{d:Nat}{f:Fn}{args:List LV}{L:List LC}{out:Oc TV}(sc:Sc)(h:RG Aa d f args L sc->TR Aa (d+1) f args L out):TR Aa (d+1) f args L out:=
 h (sF Aa (HF Aa d) f args L sc _ _ (fun v L1 J h=>Ay fun p hp=>GU fun h1 h2=>h.fin hp h1 h2) fun m L1 J h=>GU fun h1 h2=>h.finX h1 h2)
noncomputable abbrev TS(d:Nat)(b:List (MS Fn))(env:AA)(L:List LC)(out:Oc (AA×Option LV)):Prop:=Sm RV HG (Ak (CS Aa d) b) env L out
noncomputable abbrev gB(d:Nat)(b:List (MS Fn))(env:AA)(L:List LC)(sc:Sc):Prop:=PA env fun e1=>PA L fun L1=>WC Aa (OC Aa d) bw d b e1 L1 sc (fun p L1 J=>TS Aa d b env L (.ok p L1)) fun m L1 J=>TS Aa d b env L (.exc m L1)
theorem QS{Aa:List Int}{d:Nat}{b:List (MS Fn)}{env:AA}{L:List LC}{out:Oc (AA×Option LV)}(sc:Sc)(h:gB Aa d b env L sc->TS Aa d b env L out):TS Aa d b env L out:=
 h (Fj (Fj (Kx Aa _ bw d (HF Aa d) b env L sc _ _ (fun J J J h=>h) fun J J J h=>h)))
noncomputable abbrev TM(d:Nat)(e:ME Fn)(env:AA)(L:List LC)(out:Oc (Option TV)):Prop:=Sm RV RO (Wz Aa d e) env L out
noncomputable abbrev gM(d:Nat)(e:ME Fn)(env:AA)(L:List LC)(sc:Sc):Prop:=RE Aa (OC Aa d) bw d e env L sc (fun v L1 J=>Yz L (fun t L2=>TM Aa d e env L (.ok (some t) L2)) v L1) fun J J J=>True
theorem QM{Aa:List Int}{d:Nat}{e:ME Fn}{env:AA}{L:List LC}{out:Oc (Option TV)}(sc:Sc)(h:gM Aa d e env L sc->TM Aa d e env L out):TM Aa d e env L out:=
 h (ML Aa _ bw d (HF Aa d) e env L sc _ _ (fun v L1 J h=>Ay fun p hp=>GU fun h1 h2 F w s r hs=>((h.fin hp h1 h2) F w s r hs).bnd fun w1 a n q=> .same n.r rfl (.so q)) fun J J J J=>trivial)
noncomputable abbrev TI(d:Nat)(e c:ME Fn)(env:AA)(L:List LC)(out:Oc (Option TV)):Prop:=Sm RV RO (bF Aa d e c) env L out
noncomputable abbrev gR(d:Nat)(e c:ME Fn)(env:AA)(L:List LC)(sc:Sc):Prop:=RE Aa (OC Aa d) bw d c env L sc (fun v L1 sc=>oE v.b? fun b=>b.rec (OM L.length L1 fun L2=>TI Aa d e c env L (.ok none L2)) (RE Aa (OC Aa d) bw d e env L1 sc (fun v L1 J=>Yz L (fun t L2=>TI Aa d e c env L (.ok (some t) L2)) v L1) fun J J J=>True)) fun J J J=>True
theorem QI{Aa:List Int}{d:Nat}{e c:ME Fn}{env:AA}{L:List LC}{out:Oc (Option TV)}(sc:Sc)(h:gR Aa d e c env L sc->TI Aa d e c env L out):TI Aa d e c env L out:=
 h (ML Aa _ bw d (HF Aa d) c env L sc _ _ (fun v L1 sc h=>Ay fun b hb=>by
  cases b with
  | false=>
   exact GU fun h1 h2 F w s r hs=>by
    obtain⟨a,w1,e1,n,q⟩:=h F w s r hs
    cases Rw hb q
    exact⟨none,⟨w1.ρ.take L.length,w1.H⟩,(Av e1).trans rfl,(I4 n r h1 h2).1,.no⟩
  | true=>
   exact ML Aa _ bw d (HF Aa d) e env L1 sc _ _ (fun v L2 J g=>Ay fun p hp=>GU fun h1 h2 F w s r hs=>by
    obtain⟨a,w1,e1,n,q⟩:=h F w s r hs
    cases Rw hb q
    obtain⟨a,w2,e2,n2,q2⟩:=g F w1 s n.r (AI n.l n.p hs)
    obtain⟨n3,z⟩:=Gq n2.r q2 hp
    obtain⟨n4,l⟩:=I4 ((n.trans n2).trans n3) r h1 h2
    exact⟨some a,⟨w2.ρ.take L.length,w2.H⟩,(Av e1).trans ((Av e2).trans rfl),n4,.so (FR.mono l z)⟩) fun J J J J=>trivial) fun J J J J=>trivial)
theorem Fo{m:Mine.Env->M (Option V)}{env:AA}{L:List LC}{c:TV->TV}:∀{xs:List TV},(∀x ∈ xs,Sm RV RO m (env++[some (.f x)]) L (.ok (some (c x)) L))->Fs m env xs L (xs.map c) L
 | [],_=> .nil
 | x::xs,h=> .cons (h x (.head _)) (Fo fun y hy=>h y (.tail _ hy))
theorem Rs.hide{α β:Type}{R:α->β->Prop}{as:List α}{bs:List β}(h:Rs R as bs){a:α}(q:∀b,R a b):∀i,Rs R (as.set i a) bs:=by
 induction h with
 | nil=>intro i;exact .nil
 | cons x y ih=>intro i;cases i with
  | zero=>exact .cons (q _) y
  | succ i=>exact .cons x (ih i)
theorem Wn{G':Nat->Af->Prop}(l:Le G G'){n:Nat}{env:AA}{s:Mine.Env}(h:RV G ρ env s):env.all (fun o=>o.rec true (LV.lo n))=true->RV G' (ρ.take n) env s:=by
 induction h with
 | nil=>exact fun J=> .nil
 | @cons o v env s hx _ ih=>
  intro e
  rw[List.all_cons,P8]at e
  refine .cons ?_ (ih e.2)
  cases hx with
  | no=>exact .no
  | @so a b q=>
   refine .so ?_
   have e1:LV.lo n a=true:=e.1
   cases a with
   | f t=>exact FR.mono l q
   | r i=>exact let⟨a,e2,e3⟩:=q;⟨a,by rw[List.getElem?_take,if_pos (Nat.blt_eq.mp e1)];exact e2,e3⟩
theorem TS.cut{d:Nat}{b:List (MS Fn)}{env env1:AA}{L1:List LC}(i n:Nat)(h:TS Aa d b env L (.ok (env1,none) L1))(h1:(L1.take n).all (LC.lo n)=true)(h2:(L1.drop n).all (fun c=> !c.bor)=true)(h3:(env1.set i none).all (fun o=>o.rec true (LV.lo n))=true)(hn:L.length<=n):TS Aa d b env L (.ok (env1.set i none,none) (L1.take n)):=fun F w s r hs=>
 let⟨p,w1,e,n1,q⟩:=h F w s r hs
 let⟨r2,l⟩:=OE n1.r h1 h2
 ⟨p,⟨w1.ρ.take n,w1.H⟩,e,⟨r2,(by
  obtain⟨t,e⟩:=n1.p
  show w.ρ <+:w1.ρ.take n
  rw[<-e,List.take_append,List.take_of_length_le (by rw[r.len];exact hn)]
  exact List.prefix_append ..),fun a c h=>l a c (n1.l a c h)⟩,Wn l (q.1.hide (fun J=> .no) i) h3,by
   have q2:=q.2
   obtain⟨p1,p2⟩:=p
   cases q2;exact .no⟩
theorem VO{d:Nat}{f:Fn}{b:Bool}(h:TR Aa d f [sv .ext] [] (.ok (.s (.bool b)) [])):∃H',D8 prog Aa Gd initOf d f [.ext] [.tab]=.ok (.bool b) H'/\H'[0]? =some .tab:=by
 have r:Rl ⟨fun J=>False,[.tab]⟩ [] ⟨[],[.tab]⟩:={ tab:=rfl,t0:=fun i h=>(by cases i<;>cases h),nd:=fun i j a h=>(by cases i<;>cases h),len:=rfl,lt:=fun i a h=>(by cases i<;>cases h),sF:=fun a h=>h.elim,le:=Nat.le_refl _,old:=fun a J J=>rfl,own:=fun i a c h=>(by cases i<;>cases h),cells:=fun i a c h=>(by cases i<;>cases h)}
 obtain⟨a,w,e,n,q⟩:=h _ _ [.ext] r (.cons .s .nil)
 cases q
 obtain⟨c,e1,h1⟩:=Jo n.r.tab
 refine⟨w.H,e,?_⟩
 cases c with
 | tab=>exact e1
 | inst k fs=>rcases GI h1 with h | ⟨h,_⟩<;>cases h
 | _=>cases h1
end
noncomputable abbrev AD(k:Nat)(xs:List TV)(a:TV):TV:= .n (.ins .vector [0,1,2,4]) [.s (.w k),.n .lst xs,a,.s (.bool false)]
noncomputable abbrev FQ:TV:= .n (.ins .null [0,2]) [.s (.w 6),.s .none]
noncomputable def D1:Option (List TV)->TV
 | none=> .s .none
 | some ns=> .n (.dct [5]) [AD 9 ns (.s .none)]
noncomputable def R6:Option (List TV)->TV
 | none=> .s .none
 | some ns=> .n .lst ns
noncomputable abbrev Ka(k:Nat):Prop:=k=8\/k=9
noncomputable abbrev Kv(k:Nat):Prop:=k=7\/Ka k
noncomputable def Dq(k:Nat):TV:=if k=7 then FQ else .s .none
section
variable{Aa:List Int}{d k w:Nat}{xs:List TV}{ns:Option (List TV)}{a x:TV}
noncomputable abbrev Cj(Aa:List Int)(d:Nat)(f:Fn)(args:List TV)(t:TV):Prop:=TR Aa d f (args.map .f) [] (.ok t [])
noncomputable abbrev bQ(Aa:List Int)(d:Nat)(f:Fn)(args:List TV)(m:Nat):Prop:=TR Aa d f (args.map .f) [] (.exc m [])
theorem Az:Cj Aa (d+1) .Ah [.s (.w k)] (.s (.bool ([7,19,20].contains k))):=QF .z fun h=>h
theorem Sa:Cj Aa (d+1) .Bb [.s (.w k)] (.s (.bool ([23,8,24,9].contains k))):=QF .z fun h=>h
theorem Gh:Cj Aa (d+1) .Cm [AD k xs a] (.s (.bool ([23,8,24,9].contains k))):=QF .z fun h=>h
theorem Ch:Cj Aa (d+1) .Br [AD k xs a] (.s (.bool true)):=QF .z fun h=>h
theorem DJ{i:Int}(h:i<=1000000):Cj Aa (d+1) .DJ [.s (.int i)] (.s (.int i)):=QF (.c .z) fun q=>q (Int.not_lt.mpr h)
theorem Na:Cj Aa (d+1) .B5 [AD k xs (.s .none),.s (.w w)] (.s .none):=QF .z fun h=>h
theorem MJ{ns:List TV}:Cj Aa (d+1) .B5 [AD k xs (D1 (some ns)),.s (.w 5)] (AD 9 ns (.s .none)):=QF .z fun h=>h
theorem PY:Cj Aa (d+1) .B5 [AD k xs (D1 ns),.s (.w 25)] (.s .none):=by
 cases ns<;>exact QF .z fun h=>h
theorem C6:Cj Aa (d+2) .C6 [AD k xs (D1 ns)] (.s .none):=QF .z fun h=>h PY
theorem AO(hk:Kv k):Cj Aa (d+3) .AO [AD k xs (D1 ns)] (R6 ns):=by
 rcases hk with rfl | rfl | rfl<;>cases ns with
 | none=>exact QF .z fun h=>h C6 Na
 | some l=>exact QF .z fun h=>h C6 MJ
theorem Cy:Cj Aa (d+2) .Bn [.n .lst xs] (AD 9 xs (.s .none)):=QF .z fun h=>h
theorem Qp(hk:Kv k):Cj Aa (d+2) .Bt [.s (.w k)] (Dq k):=by
 rcases hk with rfl | rfl | rfl<;>exact QF .z fun h=>h
theorem BL:Cj Aa (d+1) .BL [AD k xs a] (AD k xs a):=QF .z fun h=>h
theorem N0:Cj Aa (d+1) .CK [FQ] (.s (.int 0)):=QF .z fun h=>h
theorem Mq(hk:Kv k):Cj Aa (d+1) .CK [AD k xs a] (.s (.int xs.length)):=by
 rcases hk with rfl | rfl | rfl<;>exact QF .z fun h=>h
noncomputable def JT(x:TV):TV:=x.casesOn (fun v=>v.casesOn (.s .none) (fun J=>x) (fun i=> .s (.dec i)) (fun J=>x) (fun J=>x) (fun J=>x) x) (fun J J=>x) x
theorem N1{i:Int}{n:TV}(h0:0<=i)(h1:i<=100000):Cj Aa (d+2) .CX [.s (.w 8),.s (.int i),.s (.w 9),n] (.s (.dec i)):=
 QF .z fun h=>h Sa (QF .z fun h=>h h0 h1)
theorem LZ{n:TV}(hk:Ka k):Cj Aa (d+2) .CX [.s (.w k),x,.s (.w 7),n] (AD k [x] (.s .none)):=by
 rcases hk with rfl | rfl<;>exact QF .z fun h=>h Sa BL
end
section
variable{Aa:List Int}{d k k' w:Nat}{xs:List TV}{ns:Option (List TV)}{a x n:TV}
theorem Ci{c:TV->TV}(hk:Kv k)(JK:k≠k')(h:∀x ∈ xs,Cj Aa (d+3) .CX [.s (.w k),x,.s (.w k'),n] (c x)):Cj Aa (d+4) .Ci [AD k xs (D1 ns),.s (.w k'),n] (AD k' (xs.map c) (D1 ns)):=by
 cases ns with
 | none=>exact QF (.b .z) fun q=>q (GH JK) (Fo fun x hx=>QM .z fun q=>q (h x hx)) (AO hk)
 | some l=>exact QF (.b .z) fun q=>q (GH JK) (Fo fun x hx=>QM .z fun q=>q (h x hx)) (AO hk) Cy BL
theorem CD(hk:Ka k):Cj Aa (d+5) .CD [AD k xs (D1 ns)] (AD 7 (xs.map fun x=>AD k [x] (.s .none)) (D1 ns)):=
 QF .z fun q=>q (Ci (.inr hk) (by exact fun e=>g8 ‹_› e (by decide)) fun x J=>LZ hk)
inductive Cv:Nat->Nat->List TV->List TV->Prop
 | same {k:Nat} {xs:List TV}:Kv k->Cv k k xs xs
 | list {k:Nat} {xs:List TV}:Ka k->Cv k 7 xs (xs.map fun x=>AD k [x] (.s .none))
 | dec {xs:List TV}:(∀x ∈ xs,∃i:Int,x=.s (.int i)/\0<=i/\i<=100000)->Cv 8 9 xs (xs.map JT)
theorem NG{ys:List TV}(h:Cv k k' xs ys):Cj Aa (d+6) .AR [AD k xs (D1 ns),.s (.w k'),n] (.n .lst ys):=by
 cases h with
 | same hk=>exact QF (.b .z) fun q=>q (congrArg some (beq_self_eq_true k))
 | list hk=>
  rcases hk with rfl | rfl
  .exact QF .z fun q=>q Az Az (CD (.inl rfl))
  .exact QF .z fun q=>q Az Az (CD (.inr rfl))
 | dec h=>exact QF .z fun q=>q Az Az (Ci (.inr (.inl rfl)) (by decide) fun x hx=>by
   obtain⟨i,rfl,h0,h1⟩:=h x hx
   exact N1 h0 h1)
end
noncomputable def wT(x:TV):Option Nat:=x.casesOn Vw (fun J J=>none) none
noncomputable def MK:List TV->Nat->List (Nat×TV)->List (Nat×TV)
 | [],_,kvs=>kvs
 | x::xs,i,kvs=>match wT x with
  | some k=>if ¬k=16/\look k kvs=none then MK xs (i+1) (put k (.s (.int i)) kvs)else MK xs (i+1) kvs
  | none=>MK xs (i+1) kvs
theorem RI{j i:Nat}{xs:List TV}{kvs:List (Nat×TV)}:MK (.s (.w j)::xs) i kvs=if ¬j=16/\look j kvs=none then MK xs (i+1) (put j (.s (.int i)) kvs)else MK xs (i+1) kvs:=rfl
noncomputable abbrev Us(kvs:List (Nat×TV)):TV:= .n (.dct (kvs.map (·.1))) (kvs.map (·.2))
noncomputable abbrev Ja(i n:Nat):List TV:=(List.range' i n).map fun(k:Nat)=> .s (.int (k:Int))
theorem LO{n:Nat}:DX 0 (n:Int)=Ja 0 n:=by
 unfold DX BU Ja
 rw[List.map_map,<-List.range_eq_range']
 simp[Function.comp_def]
theorem EZ{B:Mine.Env->M (Mine.Env×Option V)}{i n:Nat}{env:AA}{L:List LC}{out:Oc (AA×Option LV)}(h:DL B i (Ja 0 n) env L out):DL B i (DX 0 (n:Int)) env L out:=LO▸h
theorem MV{k:Nat}:∀{l:List (Nat×TV)},look k ((l.map (·.1)).zip (l.map (·.2)))=look k l
 | []=>rfl
 | p::r=>congrArg (fun x=>if p.1=k then some p.2 else x) (MV (l:=r))
theorem Mj{k j:Nat}{v:TV}:∀{kvs:List (Nat×TV)},look k (put j v kvs)=if j=k then some v else look k kvs
 | []=>rfl
 | p::r=>by
  have e:∀s:List (Nat×TV),look k (p::s)=if p.1=k then some p.2 else look k s:=fun J=>rfl
  unfold put
  by_cases h:p.1=j
  .rw [if_pos h,e]
   show(if j=k then some v else look k r)=_
   by_cases q:j=k
   .rw [if_pos q,if_pos q]
   .rw [if_neg q,if_neg q,if_neg (by exact fun e=>q (Eq.trans (Eq.symm ‹_›) e))]
  .rw [if_neg h,e,e,Mj]
   by_cases q:p.1=k
   .rw [if_pos q,if_pos q,if_neg (by exact fun e=>f7 (h:=‹_›) ‹_› e)]
   .rw [if_neg q,if_neg q]
theorem N7{k j:Nat}:DM k (.s (.w j))=decide (j=k):=by
 show decide (V.w j=.w k)=_
 by_cases h:j=k
 .rw [h,decide_eq_true rfl,decide_eq_true rfl]
 .rw [decide_eq_false h,decide_eq_false fun q=>h (V.w.inj q)]
theorem XN{k:Nat}:∀{x:TV},wT x=none->DM k x=false
 | .s v,h=>by cases v<;>first | rfl | cases h
 | .n _ _,_=>rfl
 | .u,_=>rfl
theorem T9{k:Nat}:∀{x:TV},wT x=some k->x=.s (.w k)
 | .s v,h=>by cases v<;>cases h<;>rfl
 | .n _ _,h=>by cases h
 | .u,h=>by cases h
theorem MG{k:Nat}:∀{xs:List TV} {i:Nat} {kvs:List (Nat×TV)},look k (MK xs i kvs)=match look k kvs with
  | some v=>some v
  | none=>if k=16 then none else(xs.findIdx? (DM k)).map fun j=> .s (.int ((i+j:Nat):Int))
 | [],i,kvs=>by
  show look k kvs=_
  cases look k kvs with
  | none=>simp
  | some v=>rfl
 | x::xs,i,kvs=>by
  have ih:=fun kvs=>MG (k:=k) (xs:=xs) (i:=i+1) (kvs:=kvs)
  have step:∀(b:Bool),DM k x=b->(List.findIdx? (DM k) (x::xs)).map (fun j=>TV.s (.int ((i+j:Nat):Int)))=if b=true then some (.s (.int i))else(xs.findIdx? (DM k)).map fun j=> .s (.int ((i+1+j:Nat):Int)):=by
   intro b hb
   rw[List.findIdx?_cons,hb]
   cases b
   .simp only [Bool.false_eq_true,if_false,Option.map_map]
    congr 1
    funext j
    simp only [Function.comp,Nat.add_assoc,Nat.add_comm 1]
   .rfl
  unfold MK
  cases hx:wT x with
  | none=>rw[step false (XN hx)];exact ih kvs
  | some j=>
   cases T9 hx
   dsimp only
   by_cases hc:¬j=16/\look j kvs=none
   .rw [if_pos hc,ih,Mj]
    by_cases q:j=k
    .subst q
     rw[step true (by rw[N7,decide_eq_true rfl]),if_pos rfl,hc.2,if_pos rfl]
     exact(if_neg hc.1).symm
    .rw [if_neg q,step false (by rw[N7,decide_eq_false q])]
     simp
   .rw [if_neg hc,ih]
    by_cases q:j=k
    .subst q
     cases h:look j kvs with
     | some v=>rfl
     | none=>
      have:j=16:=Classical.byContradiction fun h16=>hc ⟨h16,h⟩
      simp[this]
    .rw [step false (by rw[N7,decide_eq_false q])]
     simp
theorem Zi{k:Nat}{ns:List TV}:look k (((MK ns 0 []).map (·.1)).zip ((MK ns 0 []).map (·.2)))=if k=16 then none else(ns.findIdx? (DM k)).map fun j=> .s (.int (j:Int)):=by
 rw[MV,MG]
 show(if k=16 then none else _)=_
 simp only [Nat.zero_add]
noncomputable def Ee(x:TV):Bool:=x.casesOn (fun v=>v.casesOn true (fun J=>false) (fun J=>false) (fun j=>decide (12<=j/\j < 18)) (fun J=>false) (fun J=>false) false) (fun J J=>false) false
theorem Iy{x:TV}(h:Ee x=true):x=.s .none\/∃j,x=.s (.w j)/\12<=j/\j < 18:=by
 cases x with
 | n=>cases h
 | u=>cases h
 | s v=>cases v with
  | none=>exact .inl rfl
  | w j=>exact .inr ⟨j,rfl,of_decide_eq_true h⟩
  | _=>cases h
section
variable{Aa:List Int}{d k k' w:Nat}{xs:List TV}{ns:Option (List TV)}{a x n:TV}
noncomputable abbrev cQ:List (MS Fn):=[.asg 3 (.idx (.O 0) (.O 2)),.ifs (.and2 (.isNone true (.O 3)) (.and2 (.cmp .ne (.O 3) (.cst (.w 16))) (.cmp .notin (.O 3) (.O 1)))) [.setI (.O 1) (.O 3) (.O 2)] []]
theorem Pm{ns:List TV}(ha:ns.all Ee=true)(hl:ns.length<=80):∀(xs done:List TV) (kvs:List (Nat×TV)) (e2 e3:Option LV),ns=done++xs->kvs.length<=done.length->
  ∃e2' e3',DL (Ak (CS Aa d) cQ) 2 (Ja done.length xs.length) [some (.f (.n .lst ns)),some (.r 0),e2,e3] [.dct kvs] (.ok ([some (.f (.n .lst ns)),some (.r 0),e2',e3'],none) [.dct (MK xs done.length kvs)])
 | [],done,kvs,e2,e3,_,_=>⟨e2,e3,.nil⟩
 | x::xs,done,kvs,e2,e3,e,hk=>by
  have hx:ns[done.length]? =some x:=by rw[e,List.getElem?_append_right (Nat.le_refl _),Nat.sub_self];rfl
  have hd:done.length < 80:=by rw[e,C2,List.length_cons]at hl;exact qR ‹_›
  have hm:Ee x=true:=List.all_eq_true.mp ha x (List.mem_of_getElem? hx)
  have go:=fun kvs' (hk2:kvs'.length<=done.length+1)=>Pm ha hl xs (done++[x]) kvs' (some (il done.length)) (some (.f x)) (by rw[e,List.append_assoc];rfl) (by rw[C2];exact hk2)
  rw[C2]at go
  have one:∀kvs',kvs'.length<=done.length+1->MK (x::xs) done.length kvs=MK xs (done.length+1) kvs'->TS Aa d cQ [some (.f (.n .lst ns)),some (.r 0),some (il done.length),e3] [.dct kvs] (.ok ([some (.f (.n .lst ns)),some (.r 0),some (il done.length),some (.f x)],none) [.dct kvs'])->∃e2' e3',DL (Ak (CS Aa d) cQ) 2 (Ja done.length (x::xs).length) [some (.f (.n .lst ns)),some (.r 0),e2,e3] [.dct kvs] (.ok ([some (.f (.n .lst ns)),some (.r 0),e2',e3'],none) [.dct (MK (x::xs) done.length kvs)]):=fun kvs' h1 h2 h3=>by
   obtain⟨a,b,g⟩:=go kvs' h1
   rw[h2]
   exact⟨a,b,.next h3 g⟩
  rcases Iy hm with rfl | ⟨j,rfl,_⟩
  .exact one kvs (by exact Nat.le_succ_of_le ‹_›) rfl (QS (.b .z) fun q=>q hx)
  by_cases h16:j=16
  .subst h16
   exact one kvs (by exact Nat.le_succ_of_le ‹_›) (RI.trans (if_neg fun h=>h.1 rfl)) (QS (.b .z) fun q=>q hx)
  .cases hlk:look j kvs with
   | none=>exact one _ (Nat.le_trans H6 (by exact Nat.succ_le_succ ‹_›)) (RI.trans (if_pos ⟨h16,hlk⟩)) (QS (.b (.a (.b (.c .z)))) fun q=>q hx (GH h16) (by rw[hlk];rfl) (by exact(show kvs.length < 90 by exact Nat.lt_of_le_of_lt ‹_› (zz ‹_› (by rfl)))))
   | some v=>exact one kvs (by exact Nat.le_succ_of_le ‹_›) (RI.trans (if_neg fun h=>by rw[hlk]at h;cases h.2)) (QS (.b (.a (.b (.b .z)))) fun q=>q hx (GH h16) (by rw[hlk];rfl))
theorem Lo:Cj Aa (d+1) .A6 [.s .none] (Us []):=QF .z fun q=>q
theorem Ko{ns:List TV}(ha:ns.all Ee=true)(hl:ns.length<=80):Cj Aa (d+1) .A6 [.n .lst ns] (Us (MK ns 0 [])):=by
 obtain⟨e2,e3,g⟩:=Pm (Aa:=Aa) (d:=d) ha hl ns [] [] none none rfl (Nat.le_refl _)
 exact QF .z fun q=>q rfl (by exact zz ‹_› (by rfl)) (EZ g)
end
noncomputable def bD(k:Nat)(x:TV):Bool:=(wT x).rec false fun j=>KW.contains (j,k)
noncomputable def Qi(k:Nat):List TV->Nat->List Nat
 | [],_=>[]
 | x::xs,i=>if bD k x then i::Qi k xs (i+1)else Qi k xs (i+1)
inductive Pl where | na | no | at (n:Nat)
noncomputable def Pl.ctorIdx(x:Pl):Nat:= @Pl.casesOn (fun J=>Nat) x 0 1 (fun J=>2)
noncomputable abbrev cV:TV:= .s (.int (-((1:Nat):Int)))
noncomputable def Pl.t:Pl->TV
 | .na=> .s .none
 | .no=>cV
 | .at n=> .s (.int (n:Int))
noncomputable def only:List Nat->Pl
 | [j]=> .at j
 | _=> .no
noncomputable def E4(ns:Option (List TV))(k:Nat)(exact:Bool):Pl:=match ns with
 | none=> .no
 | some xs=>if k=16 then .no else match xs.findIdx? (DM k)with
  | some i=> .at i
  | none=>if exact then .no else only (Qi k xs 0)
section
variable{l:List TV}{k i:Nat}{e:Bool}
theorem G0(h:¬k=16)(hx:l.findIdx? (DM k)=some i):E4 (some l) k e=.at i:=by
 unfold E4;dsimp only;rw[if_neg h,hx]
theorem GQ(h:¬k=16)(hx:l.findIdx? (DM k)=none):E4 (some l) k e=if e then .no else only (Qi k l 0):=by
 unfold E4;dsimp only;rw[if_neg h,hx]
end
theorem Ig{j k:Nat}(hj:12<=j/\j < 18)(hk:12<=k/\k < 18):Gd j k=some (KW.contains (j,k)):=if_pos ⟨hj.1,hj.2,hk.1,hk.2⟩
section
variable{Aa:List Int}{d k k' w:Nat}{xs:List TV}{ns:Option (List TV)}{a x n:TV}
noncomputable abbrev fZ:List (MS Fn):=[.ifs (.and2 (.isNone true (.idx (.O 1) (.O 4))) (.starts (.idx (.O 1) (.O 4)) (.O 0))) [.ifs (.cmp .ge (.O 3) (.cst (.int 0))) [.ret (.usub 1)] [],.asg 3 (.O 4)] []]
noncomputable def bA:Option Nat->Pl
 | none=> .no
 | some j=> .at j
theorem OJ{ns:List TV}{e2:Option LV}(hk:12<=k/\k < 18)(ha:ns.all Ee=true)(hl:ns.length<=80):∀(xs done:List TV) (p:Option Nat) (e4:Option LV),ns=done++xs->
  ∃e3' e4' fl,DL (Ak (CS Aa d) fZ) 4 (Ja done.length xs.length) [some (sv (.w k)),some (.f (.n .lst ns)),e2,some (.f (bA p).t),e4] [] (.ok ([some (sv (.w k)),some (.f (.n .lst ns)),e2,some e3',e4'],fl) [])/\fl.getD e3'=.f (match p,Qi k xs done.length with | none,l=>(only l).t | some j,[]=>(Pl.at j).t | some _,_=>cV)
 | [],done,p,e4,_=>⟨.f (bA p).t,e4,none,.nil,by cases p<;>rfl⟩
 | x::xs,done,p,e4,e=>by
  have hx:ns[done.length]? =some x:=by rw[e,List.getElem?_append_right (Nat.le_refl _),Nat.sub_self];rfl
  have hm:Ee x=true:=List.all_eq_true.mp ha x (List.mem_of_getElem? hx)
  have go:=fun p'=>OJ (e2:=e2) hk ha hl xs (done++[x]) p' (some (il done.length)) (by rw[e,List.append_assoc];rfl)
  rw[C2]at go
  have skip:bD k x=false->TS Aa d fZ [some (sv (.w k)),some (.f (.n .lst ns)),e2,some (.f (bA p).t),some (il done.length)] [] (.ok ([some (sv (.w k)),some (.f (.n .lst ns)),e2,some (.f (bA p).t),some (il done.length)],none) []):=fun hb=>by
   rcases Iy hm with rfl | ⟨j,rfl,hj⟩
   .exact QS (.b .z) fun q=>q hx
   .exact QS (.b (.a (.b (.b .z)))) fun q=>q hx hx ((Ig hj hk).trans (congrArg some hb))
  unfold Qi
  by_cases hb:bD k x=true
  .rw [if_pos hb]
   rcases Iy hm with rfl | ⟨j,rfl,hj⟩
   .cases hb
   have hbg:=(Ig hj hk).trans (congrArg some hb)
   cases p with
   | none=>
    obtain⟨e3',e4',fl,g1,g2⟩:=go (some done.length)
    exact⟨e3',e4',fl,.next (QS (.b (.a (.b (.b .z)))) fun q=>q hx hx hbg) g1,g2.trans (by cases Qi k xs (done.length+1)<;>rfl)⟩
   | some i=>exact⟨_,_,_,.ret (QS (.b (.a (.b (.b (.b .z))))) fun q=>q hx hx hbg (Int.natCast_nonneg i)),rfl⟩
  .rw [if_neg hb]
   obtain⟨e3',e4',fl,g1,g2⟩:=go p
   exact⟨e3',e4',fl,.next (skip (Bool.not_eq_true _▸hb)) g1,g2⟩
theorem Ho{ns:List TV}(h:ns.all Ee=true):ns.all VA=true:=List.all_eq_true.mpr fun x hx=>by
 rcases Iy (List.all_eq_true.mp h x hx)with rfl | ⟨j,rfl,_⟩<;>rfl
noncomputable def FM(ns:Option (List TV)):Prop:=∀l,ns=some l->l.all Ee=true/\l.length<=80
theorem Op(h:FM ns):Cj Aa (d+1) .A6 [R6 ns] (Us (MK (ns.getD []) 0 [])):=by
 cases ns with
 | none=>exact Lo
 | some l=>exact Ko (h l rfl).1 (h l rfl).2
theorem PL(hk:12<=k/\k < 18)(h:FM ns):Cj Aa (d+2) .Bz [.s (.w k),R6 ns] (E4 ns k false).t:=by
 have f0:=Op (Aa:=Aa) (d:=d) h
 have hf:=Zi (k:=k) (ns:=ns.getD [])
 cases ns with
 | none=>exact QF .z fun q=>q f0
 | some l=>
  obtain⟨h1,h2⟩:=h l rfl
  dsimp only [Option.getD]at hf
  by_cases h16:k=16
  .subst h16
   rw[if_pos rfl]at hf
   exact QF (.a (.c .z)) fun q=>q f0 (congrArg Option.isSome hf)
  .rw [if_neg h16]at hf
   cases hx:l.findIdx? (DM k)with
   | some i=>
    rw[hx]at hf
    rw[G0 h16 hx]
    exact QF (.a (.b (.b .z))) fun q=>q f0 (congrArg Option.isSome hf) hf
   | none=>
    rw[hx]at hf
    rw[GQ h16 hx]
    obtain⟨e3,e4,fl,g,e⟩:=OJ (Aa:=Aa) (d:=d+1) (e2:=some (.f (Us (MK l 0 [])))) hk h1 h2 l [] none none rfl
    cases fl with
    | none=>cases e;exact QF (.a (.c (.a (.b .z)))) fun q=>q f0 (congrArg Option.isSome hf) (GH h16) rfl (by exact zz ‹_› (by rfl)) (EZ g)
    | some v=>cases e;exact QF (.a (.c (.a (.b .z)))) fun q=>q f0 (congrArg Option.isSome hf) (GH h16) rfl (by exact zz ‹_› (by rfl)) (EZ g)
theorem Cr{exact:Bool}(hk:12<=k/\k < 18)(h:FM ns):Cj Aa (d+3) .Cr [.s (.w k),R6 ns,.s (.bool exact)] (E4 ns k exact).t:=by
 cases exact with
 | false=>exact QF .z fun q=>q (PL hk h)
 | true=>
  have f0:=Op (Aa:=Aa) (d:=d+1) h
  have hf:=Zi (k:=k) (ns:=ns.getD [])
  cases ns with
  | none=>exact QF .z fun q=>q f0
  | some l=>
   dsimp only [Option.getD]at hf
   by_cases h16:k=16
   .subst h16
    rw[if_pos rfl]at hf
    exact QF (.a (.a (.c .z))) fun q=>q f0 hf
   .rw [if_neg h16]at hf
    cases hx:l.findIdx? (DM k)with
    | some i=>
     rw[hx]at hf
     rw[G0 h16 hx]
     exact QF (.a (.a (.b .z))) fun q=>q f0 hf
    | none=>
     rw[hx]at hf
     rw[GQ h16 hx]
     exact QF (.a (.a (.c .z))) fun q=>q f0 hf
inductive El where | na | num (i:Nat) | nm (k:Nat)
noncomputable def El.ctorIdx(x:El):Nat:= @El.casesOn (fun J=>Nat) x 0 (fun J=>1) (fun J=>2)
noncomputable def Bj:El->TV
 | .na=>AD 8 [.s .none] (.s .none)
 | .num i=>AD 8 [.s (.int (i:Int))] (.s .none)
 | .nm k=>AD 9 [.s (.w k)] (.s .none)
noncomputable def CO:El->Prop
 | .nm k=>12<=k/\k < 18
 | _=>True
noncomputable def AP(ns:Option (List TV))(exact:Bool):El->Except Nat Pl
 | .na=> .ok .na
 | .num 0=> .error 26
 | .num (i+1)=> .ok (.at i)
 | .nm k=> .ok (E4 ns k exact)
noncomputable abbrev FP(Aa:List Int)(d:Nat)(f:Fn)(args:List TV)(r:Except Nat TV):Prop:=TR Aa d f (args.map .f) [] (match r with | .ok t=> .ok t [] | .error m=> .exc m [])
theorem Bo{exact:Bool}{key:El}(A3:CO key)(h:FM ns):FP Aa (d+4) .Bo [Bj key,a,R6 ns,.s (.bool exact)] ((AP ns exact key).map Pl.t):=by
 cases key with
 | na=>exact QF .z fun q=>q (QF .z fun q=>q) (QF .z fun q=>q)
 | nm k=>exact QF .z fun q=>q (Cr A3 h)
 | num i=>
  cases i with
  | zero=>exact QF (.a (.a (.a (.a (.a (.a (.a (.a (.b .z))))))))) fun q=>q (QF .z fun q=>q) (QF (.a (.c .z)) fun q=>q (by decide))
  | succ i=>
   have e:((i+1:Nat):Int) - 1=(i:Int):=by exact qL
   have h:Cj Aa (d+3) .CN [.s (.int ((i+1:Nat):Int)),a] (.s (.int (((i+1:Nat):Int) - 1))):=QF (.a (.b .z)) fun q=>q (by exact qG (Nat.succ_pos _))
   rw[e]at h
   exact QF .z fun q=>q (QF .z fun q=>q) h
end
noncomputable def Oq(k:Nat)(x:TV):TV:=if k=7 then x else AD k [x] (.s .none)
noncomputable def EF(k:Nat)(xs:List TV):Pl->Except Nat TV
 | .na=> .ok (if k=7 then FQ else AD k [.s .none] (.s .none))
 | .no=>if k=7 then .ok FQ else .error 28
 | .at n=>match xs[n]? with
  | none=> .error 28
  | some x=> .ok (Oq k x)
noncomputable def JW(k:Nat)(xs:List TV)(ns:Option (List TV))(key:El)(exact:Bool):Except Nat TV:=(AP ns exact key).bind (EF k xs)
section
variable{Aa:List Int}{d k k' w:Nat}{xs:List TV}{ns:Option (List TV)}{a x n:TV}
theorem Cz(hk:Kv k){i:Nat}(h:xs[i]? =some x):Cj Aa (d+3) .Cz [AD k xs a,.s (.int (i:Int))] (Oq k x):=by
 rcases hk with rfl | rfl | rfl
 .exact QF (.a (.b .z)) fun q=>q Az h
 .exact QF (.a (.b .z)) fun q=>q Az h
 .exact QF (.a (.b .z)) fun q=>q Az h
theorem Mc{exact:Bool}{key:El}(hk:Kv k)(A3:CO key)(h:FM ns):FP Aa (d+5) .AN [AD k xs (D1 ns),Bj key,.s (.bool exact)] (JW k xs ns key exact):=by
 have e0:=AO (Aa:=Aa) (d:=d+1) (xs:=xs) (ns:=ns) hk
 have e1:=Bo (Aa:=Aa) (d:=d) (a:= .s (.int xs.length)) (exact:=exact) A3 h
 unfold JW
 cases hp:AP ns exact key with
 | error e=>rw[hp]at e1;exact QF (.a (.b .z)) fun q=>q e0 e1
 | ok p=>
  rw[hp]at e1
  cases p with
  | na=>rcases hk with rfl | rfl | rfl<;>exact QF .z fun q=>q e0 e1 Az
  | no=>rcases hk with rfl | rfl | rfl<;>exact QF .z fun q=>q e0 e1 Az
  | «at» i=>
   have h0:¬((i:Nat):Int) < 0:=Int.not_lt.mpr (Int.natCast_nonneg i)
   cases hx:xs[i]? with
   | none=>
    have h1:(xs.length:Int)<=(i:Int):=Int.ofNat_le.mpr (List.getElem?_eq_none_iff.mp hx)
    have e:(EF k xs (.at i))=.error 28:=by unfold EF;dsimp only;rw[hx]
    have g:bQ Aa (d+5) .AN [AD k xs (D1 ns),Bj key,.s (.bool exact)] 28:=QF (.a (.a (.a (.c (.c (.b .z)))))) fun q=>q e0 e1 h0 h0 h1
    show FP _ _ _ _ (EF k xs (.at i))
    rw[e];exact g
   | some x=>
    have h1:¬(xs.length:Int)<=(i:Int):=fun q=>absurd (EK.mp hx).1 (Nat.not_lt.mpr (Int.ofNat_le.mp q))
    have e:(EF k xs (.at i))=.ok (Oq k x):=by unfold EF;dsimp only;rw[hx]
    have g:Cj Aa (d+5) .AN [AD k xs (D1 ns),Bj key,.s (.bool exact)] (Oq k x):=QF (.a (.a (.a (.c (.c (.c .z)))))) fun q=>q e0 e1 h0 h0 h1 (Cz hk hx)
    show FP _ _ _ _ (EF k xs (.at i))
    rw[e];exact g
theorem JU{exact:Bool}{key:El}(hk:Kv k)(A3:CO key)(h:FM ns):FP Aa (d+6) .AM [AD k xs (D1 ns),Bj key,.s (.bool exact)] (JW k xs ns key exact):=by
 have e1:=Mc (Aa:=Aa) (d:=d) (xs:=xs) (exact:=exact) hk A3 h
 cases hp:JW k xs ns key exact with
 | error e=>rw[hp]at e1;rcases hk with rfl | rfl | rfl<;>exact QF (.a (.a (.a (.a (.b .z))))) fun q=>q Ch e1
 | ok t=>rw[hp]at e1;rcases hk with rfl | rfl | rfl<;>exact QF .z fun q=>q Ch e1
theorem PZ:Cj Aa (d+2) .AM [FQ,a,x] FQ:=QF .z fun q=>q
theorem G7(hk:Ka k):Cj Aa (d+2) .A9 [AD k [x] a] (.s (.bool false)):=by
 rcases hk with rfl | rfl<;>exact QF .z fun q=>q Ch Az
theorem Ki{y:TV}:Cj Aa (d+2) .A9 [AD 8 [x,y] a] (.s (.bool true)):=QF .z fun q=>q Ch Az
theorem OF:∀key:El,∃k x,Ka k/\Bj key=AD k [x] (.s .none)
 | .na=>⟨8,_,.inl rfl,rfl⟩
 | .num i=>⟨8,_,.inl rfl,rfl⟩
 | .nm k=>⟨9,_,.inr rfl,rfl⟩
end
inductive Aj where
 | null
 | atom (k:Nat) (xs:List TV) (ns:Option (List TV))
 | list (ts:List Aj) (ns:Option (List TV))
noncomputable def Aj.ctorIdx(x:Aj):Nat:= @Aj.casesOn (fun J=>Nat) x 0 (fun J J J=>1) (fun J J=>2)
mutual
noncomputable def Aj.v:Aj->TV
 | .null=>FQ
 | .atom k xs ns=>AD k xs (D1 ns)
 | .list ts ns=>AD 7 (Aj.vs ts) (D1 ns)
noncomputable def Aj.vs:List Aj->List TV
 | []=>[]
 | t::ts=>t.v::Aj.vs ts
end
noncomputable def Ev:Option (List TV)->TV
 | none=> .n (.dct []) []
 | some ns=> .n (.dct [5]) [.n .tup [.s (.w 9),.n .lst ns,.n (.dct []) []]]
mutual
noncomputable def Aj.w:Aj->TV
 | .null=> .s (.w 6)
 | .atom k xs ns=> .n .tup [.s (.w k),.n .lst xs,Ev ns]
 | .list ts ns=> .n .tup [.s (.w 7),.n .lst (Aj.ws ts),Ev ns]
noncomputable def Aj.ws:List Aj->List TV
 | []=>[]
 | t::ts=>t.w::Aj.ws ts
end
theorem Fu:∀{ts:List Aj},Aj.vs ts=ts.map Aj.v
 | []=>rfl
 | t::ts=>congrArg (List.cons t.v) Fu
theorem Ea:∀{ts:List Aj},Aj.ws ts=ts.map Aj.w
 | []=>rfl
 | t::ts=>congrArg (List.cons t.w) Ea
noncomputable def M0(ns:Option (List TV))(n:Nat):Prop:=∀l,ns=some l->l.all Ee=true/\l.length=n
noncomputable def Mv(t:Aj):Pl->Except Nat Aj
 | .na=>match t with
  | .atom k _ _=> .ok (.atom k [.s .none] none)
  | _=> .ok .null
 | .no=>match t with
  | .atom _ _ _=> .error 28
  | _=> .ok .null
 | .at n=>match t with
  | .null=> .ok .null
  | .atom k xs _=>match xs[n]? with
   | none=> .error 28
   | some x=> .ok (.atom k [x] none)
  | .list ts _=>match ts[n]? with
   | none=> .error 28
   | some x=> .ok x
noncomputable def Aj.names:Aj->Option (List TV)
 | .null=>none
 | .atom _ _ ns=>ns
 | .list _ ns=>ns
noncomputable def BY(t:Aj)(key:El)(exact:Bool):Except Nat Aj:=match t with
 | .null=> .ok .null
 | t=>(AP t.names exact key).bind (Mv t)
inductive Bf(st:Bool):Nat->Aj->Prop
 | null {d:Nat}:Bf st d .null
 | atom {d k:Nat} {xs:List TV} {ns:Option (List TV)} (hk:Ka k) (hx:xs.length<=8) (hn:M0 ns xs.length) (hi:xs.all (fun x=>x.casesOn Vp (fun J J=>false) false)=true/\(st=true->xs.length<=4/\(k=8->∀x ∈ xs,∃i:Int,x=.s (.int i)/\0<=i/\i<=100000))):Bf st d (.atom k xs ns)
 | list {d:Nat} {ts:List Aj} {ns:Option (List TV)} (hx:ts.length<=8) (hn:M0 ns ts.length) (hs:st=true->ts.length<=4) (ht:∀t ∈ ts,Bf st d t):Bf st (d+1) (.list ts ns)
theorem M0.ok{ns:Option (List TV)}{n:Nat}(h:M0 ns n)(hn:n<=8):FM ns:=fun l e=>⟨(h l e).1,by rw[(h l e).2];exact zz ‹_› (by rfl)⟩
section
variable{Aa:List Int}{d k k' w:Nat}{xs:List TV}{ns:Option (List TV)}{a x n:TV}{st:Bool}{m:Nat}{t:Aj}{key:El}{exact:Bool}
theorem JX{ts:List Aj}:JW 7 (Aj.vs ts) ns key exact=(BY (.list ts ns) key exact).map Aj.v:=by
 show(AP ns exact key).bind (EF 7 (Aj.vs ts))=((AP ns exact key).bind (Mv (.list ts ns))).map Aj.v
 cases AP ns exact key with
 | error i=>rfl
 | ok p=>cases p with
  | na=>rfl
  | no=>rfl
  | «at» i=>
   show EF 7 (Aj.vs ts) (.at i)=(Mv (.list ts ns) (.at i)).map Aj.v
   unfold EF Mv
   dsimp only
   rw[Fu,List.getElem?_map]
   cases ts[i]? <;>rfl
theorem PG(hk:Ka k):JW k xs ns key exact=(BY (.atom k xs ns) key exact).map Aj.v:=by
 have k7:¬k=7:=by exact fun e=>g8 ‹_› e (by decide)
 show(AP ns exact key).bind (EF k xs)=((AP ns exact key).bind (Mv (.atom k xs ns))).map Aj.v
 cases AP ns exact key with
 | error i=>rfl
 | ok p=>cases p with
  | na=>exact congrArg Except.ok (if_neg k7)
  | no=>exact if_neg k7
  | «at» i=>
   show EF k xs (.at i)=(Mv (.atom k xs ns) (.at i)).map Aj.v
   unfold EF Mv
   dsimp only
   cases xs[i]? with
   | none=>rfl
   | some x=>exact congrArg Except.ok (if_neg k7)
theorem Ln(ht:Bf st m t)(A3:CO key):FP Aa (d+6) .AM [t.v,Bj key,.s (.bool exact)] ((BY t key exact).map Aj.v):=by
 cases ht with
 | null=>exact PZ
 | @atom _ k xs ns hk hx hn hi=>exact PG hk▸JU (Aa:=Aa) (d:=d) (xs:=xs) (exact:=exact) (.inr hk) A3 (hn.ok hx)
 | @list _ ts ns hx hn hs hts=>exact JX (ts:=ts)▸JU (Aa:=Aa) (d:=d) (xs:=Aj.vs ts) (exact:=exact) (.inl rfl) A3 (hn.ok hx)
end
section
variable{Aa:List Int}{d k k' w:Nat}{xs:List TV}{ns:Option (List TV)}{a x n:TV}{st:Bool}{m:Nat}{t u:Aj}{ts:List Aj}{key:El}{exact:Bool}
theorem U1(ht:Bf st m t)(A3:CO key):FP Aa (d+7) .Bd [t.v,.n .lst [Bj key],.s (.bool exact)] ((BY t key exact).map Aj.v):=by
 have e:=Ln (Aa:=Aa) (d:=d) (exact:=exact) ht A3
 obtain⟨k,x,hk,hkt⟩:=OF key
 rw[hkt]at e ⊢
 cases hr:BY t key exact with
 | ok r=>
  rw[hr]at e
  rcases hk with rfl | rfl
  .exact QF .z fun q=>q (G7 (.inl rfl)) e
  .exact QF .z fun q=>q (G7 (.inr rfl)) e
 | error r=>
  rw[hr]at e
  rcases hk with rfl | rfl
  .exact QF (aa 6 (.b .z)) fun q=>q (G7 (.inl rfl)) e
  .exact QF (aa 6 (.b .z)) fun q=>q (G7 (.inr rfl)) e
noncomputable abbrev FO(i j:Nat):TV:=AD 8 [.s (.int (i:Int)),.s (.int (j:Int))] (.s .none)
theorem HX{i j:Nat}:Cj Aa (d+2) .BM [FO i j] (.n .lst [Bj (.num i),Bj (.num j)]):=
 QF .z fun q=>q (.cons (o:=some _) (QM .z fun q=>q) (.cons (o:=some _) (QM .z fun q=>q) .nil))
noncomputable abbrev eN:List (MS Fn):=[.ifs (.cmp .eq (.attr (.O 0) 0) (.cst (.w 6))) [.raise 28] [],.asg 0 (.call .AM [.O 0,.idx (.O 4) (.O 5),.O 2])]
noncomputable abbrev XZ(u:Aj)(i j k:Nat):AA:=[some (.f u.v),some (.f (.n .lst [FO i j])),some (bl true),some (.f (FO i j)),some (.f (.n .lst [Bj (.num i),Bj (.num j)])),some (il (k:Int))]
noncomputable def Xl(u:Aj)(key:El):Except Nat Aj:=match u with
 | .null=> .error 28
 | u=>BY u key true
theorem Uj{i j:Nat}(ht:Bf st m (.list ts ns))(hi:ts[i]? =some u):FP Aa (d+7) .Bd [(Aj.list ts ns).v,.n .lst [FO (i+1) j],.s (.bool true)] ((Xl u (.num j)).map Aj.v):=by
 have e1:=Ln (Aa:=Aa) (d:=d) (exact:=true) (key:= .num (i+1)) ht trivial
 have he:BY (.list ts ns) (.num (i+1)) true=.ok u:=by
  show Mv (.list ts ns) (.at i)=_
  unfold Mv;dsimp only;rw[hi]
 rw[he]at e1
 have hu:∃m,Bf st m u:=by
  cases ht with
  | list _ _ _ h=>exact⟨_,h u (List.mem_of_getElem? hi)⟩
 obtain⟨m',hu⟩:=hu
 have e2:=Ln (Aa:=Aa) (d:=d) (exact:=true) (key:= .num j) hu trivial
 have b1:TS Aa (d+6) eN (XZ (.list ts ns) (i+1) j 0) [] (.ok (XZ u (i+1) j 0,none) []):=QS .z fun q=>q e1
 have ex:∀m,TS Aa (d+6) eN ((XZ u (i+1) j 0).set 5 (some (il ((1:Nat):Int)))) [] (.exc m [])->bQ Aa (d+7) .Bd [(Aj.list ts ns).v,.n .lst [FO (i+1) j],.s (.bool true)] m:=fun m h=>
  have g:=DL.next (i:=5) (xs:=Ja 1 1) (env:=XZ (.list ts ns) (i+1) j 0 |>.set 5 none) b1 (.exc h)
  QF (aa 8 (.b .z)) fun q=>q Ki Az HX rfl (BK rfl) (EZ (n:=2) g)
 have ok:∀r,TS Aa (d+6) eN ((XZ u (i+1) j 0).set 5 (some (il ((1:Nat):Int)))) [] (.ok (XZ r (i+1) j 1,none) [])->Cj Aa (d+7) .Bd [(Aj.list ts ns).v,.n .lst [FO (i+1) j],.s (.bool true)] r.v:=fun r h=>
  have g:=DL.next (i:=5) (xs:=Ja 1 1) (env:=XZ (.list ts ns) (i+1) j 0 |>.set 5 none) b1 (.next h .nil)
  QF .z fun q=>q Ki Az HX rfl (BK rfl) (EZ (n:=2) g)
 have nn:BY u (.num j) true=Xl u (.num j)->u≠.null->FP Aa (d+7) .Bd [(Aj.list ts ns).v,.n .lst [FO (i+1) j],.s (.bool true)] ((Xl u (.num j)).map Aj.v):=fun he hn=>by
  rw[<-he]
  cases hr:BY u (.num j) true with
  | ok r=>
   rw[hr]at e2
   exact ok r (by
    cases hu with
    | null=>exact absurd rfl hn
    | atom hk=>rcases hk with rfl | rfl<;>exact QS .z fun q=>q e2
    | list=>exact QS .z fun q=>q e2)
  | error r=>
   rw[hr]at e2
   exact ex r (by
    cases hu with
    | null=>exact absurd rfl hn
    | atom hk=>rcases hk with rfl | rfl<;>exact QS (.a (.a (.b .z))) fun q=>q e2
    | list=>exact QS (.a (.a (.b .z))) fun q=>q e2)
 cases u with
 | null=>exact ex 28 (QS .z fun q=>q)
 | atom=>exact nn rfl (by intro h;cases h)
 | list=>exact nn rfl (by intro h;cases h)
noncomputable def TK(t:Aj)(k:Nat):Except Nat Aj:=match t with
 | .null=> .ok .null
 | .atom _ _ _=> .error 30
 | .list ts ns=>BY (.list ts ns) (.nm k) false
theorem C5(ht:Bf st m t)(hk:12<=k/\k < 18):FP Aa (d+6) .C5 [t.v,.s (.w k)] ((TK t k).map Aj.v):=by
 cases ht with
 | null=>exact QF .z fun q=>q
 | atom hk=>rcases hk with rfl | rfl<;>exact QF .z fun q=>q Ch Az
 | @list _ ts ns hx hn hs hts=>
  have e:=Mc (Aa:=Aa) (d:=d) (xs:=Aj.vs ts) (ns:=ns) (exact:=false) (key:= .nm k) (.inl rfl) hk (hn.ok hx)
  have e':FP Aa (d+5) .AN [(Aj.list ts ns).v,Bj (.nm k),.s (.bool false)] ((BY (.list ts ns) (.nm k) false).map Aj.v):=(JX (ts:=ts))▸e
  show FP _ _ _ _ ((BY (.list ts ns) (.nm k) false).map Aj.v)
  cases hr:BY (.list ts ns) (.nm k) false with
  | ok r=>rw[hr]at e';exact QF .z fun q=>q Ch Az Cy e'
  | error r=>rw[hr]at e';exact QF (aa 6 (.b .z)) fun q=>q Ch Az Cy e'
end
section
variable{Aa:List Int}{d k k' w:Nat}{xs ys:List TV}{ns:Option (List TV)}{a x n:TV}{st:Bool}{m:Nat}{t u:Aj}{ts:List Aj}{key:El}{exact:Bool}
theorem TS.app{b c:List (MS Fn)}{env env1:AA}{L L1:List LC}{out:Oc (AA×Option LV)}(h:TS Aa d b env L (.ok (env1,none) L1))(h2:TS Aa d c env1 L1 out):TS Aa d (b++c) env L out:=fun F w s r hs=>by
 have app:∀(b:List (MS Fn)) (s:Mine.Env) (H:MH),Ak (CS Aa d) (b++c) s H=bnd (Ak (CS Aa d) b s) (fun p=>match p.2 with | some v=>ret (p.1,some v) | none=>Ak (CS Aa d) c p.1) H:=by
  intro b
  induction b with
  | nil=>intro s H;rfl
  | cons x b ih=>
   intro s H
   show bnd (E6 (CS Aa d) x s) (fun p=>match p.2 with | some v=>ret (p.1,some v) | none=>Ak (CS Aa d) (b++c) p.1) H=bnd (bnd (E6 (CS Aa d) x s) (fun p=>match p.2 with | some v=>ret (p.1,some v) | none=>Ak (CS Aa d) b p.1)) (fun p=>match p.2 with | some v=>ret (p.1,some v) | none=>Ak (CS Aa d) c p.1) H
   unfold bnd
   dsimp only
   cases E6 (CS Aa d) x s H with
   | ok p H1=>
    obtain⟨e,o⟩:=p
    cases o with
    | none=>exact ih e H1
    | some v=>rfl
   | exc=>rfl
   | bad=>rfl
 have e:Ak (CS Aa d) (b++c) s=bnd (Ak (CS Aa d) b s) (fun p=>match p.2 with | some v=>ret (p.1,some v) | none=>Ak (CS Aa d) c p.1):=funext (app b s)
 rw[e]
 refine(h F w s r hs).bnd fun w1 p n q=> ?_
 obtain⟨e1,o⟩:=p
 have q2:=q.2
 cases q2
 exact h2 F w1 e1 n.r q.1
noncomputable abbrev eD(r:Except Nat TV):Oc TV:=match r with
 | .ok t=> .ok t []
 | .error m=> .exc m []
noncomputable def BJ(Aa:List Int)(d:Nat)(b:List (MS Fn))(env:AA)(L:List LC):Except Nat TV->Prop
 | .ok t=>∃WY v L2 L3,TS Aa d b env L (.ok (WY,some v) L2)/\fz L2 v=some (t,L3)/\L3.all (fun c=> !c.bor)=true
 | .error m=>∃L2,TS Aa d b env L (.exc m L2)/\L2.all (fun c=> !c.bor)=true
theorem BJ.app{b c:List (MS Fn)}{env env1:AA}{L L1:List LC}{r:Except Nat TV}(h:TS Aa d b env L (.ok (env1,none) L1))(h2:BJ Aa d c env1 L1 r):BJ Aa d (b++c) env L r:=by
 cases r with
 | ok t=>exact let⟨e,v,L2,L3,q,z⟩:=h2;⟨e,v,L2,L3,h.app q,z⟩
 | error m=>exact let⟨L2,q,z⟩:=h2;⟨L2,h.app q,z⟩
noncomputable abbrev gN(Aa:List Int)(d:Nat)(b:List (MS Fn))(env:AA)(L:List LC)(sc:Sc):Prop:=PA env fun e1=>PA L fun L1=>WC Aa (OC Aa d) bw d b e1 L1 sc (fun p L2 J=>p.rec fun J o=>o.rec True fun v=>Xg L2 v fun t L3=>bE (L3.all fun c=> !c.bor) (BJ Aa d b env L (.ok t))) fun m L2 J=>bE (L2.all fun c=> !c.bor) (BJ Aa d b env L (.error m))
theorem QZ{b:List (MS Fn)}{env:AA}{L:List LC}{r:Except Nat TV}(sc:Sc)(h:gN Aa d b env L sc->BJ Aa d b env L r):BJ Aa d b env L r:=
 h (Fj (Fj (Kx Aa _ bw d (HF Aa d) b env L sc _ _ (fun p L2 J h=>by
  obtain⟨e,o⟩:=p
  cases o with
  | none=>trivial
  | some v=>exact Ay fun q hq=>Hg fun hb=>⟨e,v,L2,q.2,h,hq,hb⟩) fun m L2 J h=>Hg fun hb=>⟨L2,h,hb⟩)))
theorem QB{f:Fn}{args:List LV}{r:Except Nat TV}(hl:args.length=(prog f).params)(hd:(prog f).dflt=[])(h:BJ Aa d (prog f).body (args.map some++List.replicate ((prog f).vars - (prog f).params) none) [] r):TR Aa (d+1) f args [] (eD r):=by
 cases r with
 | error m=>
  obtain⟨L2,h,hb⟩:=h
  have g:Sm RA RT (HO Aa (d+1) f) args [] (.exc m L2):=fun F w s r hs=>by
   rw[Kq (hs.len.trans hl) hd]
   exact(h F w _ r (Lg hs _)).exc
  exact g.finX rfl hb
 | ok t=>
  obtain⟨_,v,L1,L2,h,hf,hb⟩:=h
  have g:Sm RA AF (HO Aa (d+1) f) args [] (.ok v L1):=fun F w s r hs=>by
   rw[Kq (hs.len.trans hl) hd]
   refine(h F w _ r (Lg hs _)).bnd fun w1 p n q=> ?_
   obtain⟨e1,o⟩:=p
   have q2:=q.2
   cases q2 with
   | so y=>exact .same n.r rfl y
  exact g.fin hf rfl hb
theorem TS.frz{b:List (MS Fn)}{env env1:AA}{L L1:List LC}{i:Nat}{v:LV}{p:TV×List LC}(h:TS Aa d b env L (.ok (env1,none) L1))(hv:env1[i]? =some (some v))(hf:fz L1 v=some p)(h1:(p.2.take L.length).all (LC.lo L.length)=true)(h2:(p.2.drop L.length).all (fun c=> !c.bor)=true)(h3:(env1.set i none).all (fun o=>o.rec true (LV.lo L.length))=true):TS Aa d b env L (.ok (env1.set i (some (.f p.1)),none) (p.2.take L.length)):=fun F w s r hs=>by
 obtain⟨q,w1,e,n,z⟩:=h F w s r hs
 obtain⟨o,e1,e2⟩:=z.1.get hv
 cases e2 with
 | @so _ u x=>
  obtain⟨n2,y⟩:=Gq n.r x hf
  obtain⟨n3,l⟩:=I4 (n.trans n2) r h1 h2
  refine⟨q,⟨w1.ρ.take L.length,w1.H⟩,e,n3,?_,?_⟩
  .have a:=Wn l ((AI n2.l n2.p z.1).hide (fun J=> .no) i) h3
   have b:=a.set (OV.so (a:=LV.f p.1) (FR.mono l y)) i
   rw[List.set_set]at b
   have c:q.1.set i (some u)=q.1:=by
    apply List.ext_getElem?
    intro j
    by_cases e:i=j
    .subst e;rw[GS (EK.mp e1).1,e1]
    .rw [Iu e]
   rw[c]at b
   exact b
  .have q2:=z.2
   obtain⟨q1,q2'⟩:=q
   cases q2;exact .no
theorem Lh:Cj Aa (d+1) .B0 [.s (.w 8)] (.s (.int 2)):=QF .z fun q=>q
theorem KV:Cj Aa (d+1) .B0 [.s (.w 9)] (.s (.int 4)):=QF .z fun q=>q
noncomputable abbrev D4(k k':Nat):Nat:=if k=8/\k'=8 then 8 else 9
theorem Tp(hk:Ka k)(hk':Ka k'):Cj Aa (d+2) .B4 [.n .lst [.s (.w k),.s (.w k')]] (.s (.w (D4 k k'))):=by
 rcases hk with rfl | rfl<;>rcases hk' with rfl | rfl
 .exact QF .z fun q=>q (.next (QS .z fun q=>q Lh) (.next (QS .z fun q=>q Lh) .nil))
 .exact QF .z fun q=>q (.next (QS .z fun q=>q Lh) (.next (QS .z fun q=>q KV) .nil))
 .exact QF .z fun q=>q (.next (QS .z fun q=>q KV) (.next (QS .z fun q=>q Lh) .nil))
 .exact QF .z fun q=>q (.next (QS .z fun q=>q KV) (.next (QS .z fun q=>q KV) .nil))
theorem Qh{xs:List TV}:Cj Aa (d+2) .AY [AD 7 xs a,x] (.s (.w 7)):=QF .z fun q=>q Az
theorem PQ{xs ys:List TV}{b:TV}(hk:Ka k)(hk':Ka k'):Cj Aa (d+3) .AY [AD k xs a,AD k' ys b] (.s (.w (D4 k k'))):=by
 have c:=Tp (Aa:=Aa) (d:=d) hk hk'
 rcases hk with rfl | rfl<;>rcases hk' with rfl | rfl<;>exact QF .z fun q=>q Az Gh c
theorem Nu{xs ys:List TV}{b:TV}(hk:Ka k):Cj Aa (d+3) .AY [AD k xs a,AD 7 ys b] (.s (.w 7)):=by
 rcases hk with rfl | rfl<;>exact QF .z fun q=>q Az Gh Az
noncomputable abbrev LN(k:Nat)(ys l:List TV):List LC:=[.dct [(5,AD 9 l (.s .none))],.lst false ys,.ins .vector [(0,sv (.w k)),(1,.r 1),(2,.r 0),(4,bl false)]]
noncomputable abbrev LP(k:Nat)(ys:List TV):List LC:=[.lst false ys,.ins .vector [(0,sv (.w k)),(1,.r 0),(2,sv .none),(4,bl false)]]
noncomputable def bR:Option TV->List LC
 | none=>[]
 | some w=>[.lst false [w]]
noncomputable abbrev Z4:List (MS Fn):=[.ex (.append (.attr (.O 0) 1) (.call .Bt [.attr (.O 0) 0]))]
theorem Q6{l:List TV}{mo:Option TV}{e1 e2 e3 e4 e6:Option LV}(hk:Kv k):∀(zs ys:List TV) (e5:Option LV),ys.length+zs.length<=200->∃e5',DL (Ak (CS Aa (d+2)) Z4) 5 zs [some (.r 2),e1,e2,e3,e4,e5,e6] (LN k ys l++bR mo) (.ok ([some (.r 2),e1,e2,e3,e4,e5',e6],none) (LN k (ys++List.replicate zs.length (Dq k)) l++bR mo))
 | [],ys,e5,_=>⟨e5,by rw[List.length_nil,List.replicate_zero,List.append_nil];exact .nil⟩
 | z::zs,ys,e5,hl=>by
  rw[List.length_cons]at hl
  obtain⟨e5',g⟩:=Q6 hk zs (ys++[Dq k]) (some (.f z)) (by rw[C2];exact(show ys.length+1+zs.length<=200 by omega))
  have e:ys++List.replicate (z::zs).length (Dq k)=ys++[Dq k]++List.replicate zs.length (Dq k):=by rw[List.append_assoc];rfl
  rw[e]
  exact⟨e5',.next (by cases mo<;>exact QS .z fun q=>q (Qp hk) (show ys.length < 5000 by omega)) g⟩
theorem S5{mo:Option TV}{e1 e2 e3 e4 e6:Option LV}(hk:Kv k):∀(zs ys:List TV) (e5:Option LV),ys.length+zs.length<=200->∃e5',DL (Ak (CS Aa (d+2)) Z4) 5 zs [some (.r 1),e1,e2,e3,e4,e5,e6] (LP k ys++bR mo) (.ok ([some (.r 1),e1,e2,e3,e4,e5',e6],none) (LP k (ys++List.replicate zs.length (Dq k))++bR mo))
 | [],ys,e5,_=>⟨e5,by rw[List.length_nil,List.replicate_zero,List.append_nil];exact .nil⟩
 | z::zs,ys,e5,hl=>by
  rw[List.length_cons]at hl
  obtain⟨e5',g⟩:=S5 hk zs (ys++[Dq k]) (some (.f z)) (by rw[C2];exact(show ys.length+1+zs.length<=200 by omega))
  have e:ys++List.replicate (z::zs).length (Dq k)=ys++[Dq k]++List.replicate zs.length (Dq k):=by rw[List.append_assoc];rfl
  rw[e]
  exact⟨e5',.next (by cases mo<;>exact QS .z fun q=>q (Qp hk) (show ys.length < 5000 by omega)) g⟩
end
noncomputable abbrev FJ:TV:= .s (.w 16)
noncomputable def Hp(k:Nat)(ys:List TV)(p:Nat):List TV:=if ys.length<=p then ys++List.replicate (p+1 - ys.length) (Dq k)else ys
noncomputable abbrev Kd(mo:Option Nat):Option TV:=mo.map fun j=> .s (.w j)
noncomputable abbrev YT(mo:Option Nat):TV:= .s (mo.elim .none .w)
noncomputable def C4(b:List TV)(sz:Nat):List TV:=b++List.replicate (sz - b.length) FJ
noncomputable def E8(n:Nat)(ns:Option (List TV))(mo:Option Nat)(p:Nat):Option (List TV):=if n<=p then(match ns,mo with
  | none,none=>none
  | none,some j=>some (C4 (List.replicate n FJ++[.s (.w j)]) (p+1))
  | some l,none=>some (C4 l (p+1))
  | some l,some j=>some (C4 (l++[.s (.w j)]) (p+1)))else ns
noncomputable def oL(k:Nat)(ys:List TV):Option (List TV)->List LC
 | none=>LP k ys
 | some l=>LN k ys l
noncomputable def oR:Option (List TV)->Nat
 | none=>1
 | some _=>2
theorem Ff{a b:Nat}:(DX (a:Int) ((b:Int)+1)).length=b+1 - a:=by
 unfold DX BU;simp
noncomputable abbrev Pv:List (MS Fn):=(prog .AQ).body
noncomputable abbrev Jx(v val notes:TV)(p:Nat)(mo:Option Nat)(ns:Option (List TV))(k:Nat):AA:=[some (.f v),some (il (p:Int)),some (.f (YT mo)),some (.f val),some (.f notes),some (.f (R6 ns)),some (sv (.w k)),some (.r (oR ns)),none]
section
variable{Aa:List Int}{d k k' w:Nat}{xs ys:List TV}{ns:Option (List TV)}{a x n:TV}{st:Bool}{m:Nat}{t u:Aj}{ts:List Aj}{key:El}{exact:Bool}
theorem TZ(hk:Ka k):Cj Aa (d+1) .Ah [.s (.w k)] (.s (.bool false)):=by
 rcases hk with rfl | rfl<;>exact Az
inductive Wv(Aa:List Int)(d:Nat)(notes:TV)(k:Nat)(val w:TV):Prop
 | li (h:∀d,Cj Aa (d+1) .Ah [.s (.w k)] (.s (.bool true))) (hs:∀d,Cj Aa (d+1) .BL [val] w):Wv Aa d notes k val w
 | ato (h:∀d,Cj Aa (d+1) .Ah [.s (.w k)] (.s (.bool false))) (hc:Cj Aa d .AR [val,.s (.w k),notes] (.n .lst [w])):Wv Aa d notes k val w
theorem Wv.list{notes:TV}{k:Nat}{ys:List TV}{a:TV}:Wv Aa d notes 7 (AD k ys a) (AD k ys a):= .li (fun J=>Az) fun J=>BL
theorem Wv.atom{notes:TV}{k:Nat}{val w:TV}(h:Ka k)(hc:Cj Aa d .AR [val,.s (.w k),notes] (.n .lst [w])):Wv Aa d notes k val w:= .ato (fun J=>TZ h) hc
theorem Sz{v val notes w:TV}{p:Nat}{mo:Option Nat}(hk:Kv k)(hw:Wv Aa (d+4) notes k val w)(hy:ys.length<=90)(hp:p < 100)(hl:ys.length<=p->(ns.getD (List.replicate ys.length FJ)).length+(Kd mo).toList.length<=p+1):
  BJ Aa (d+4) (Pv.drop 4) (Jx v val notes p mo ns k) (oL k ys ns) (.ok (AD k ((Hp k ys p).set p w) (D1 (E8 ys.length ns mo p)))):=by
 by_cases hge:ys.length<=p
 .have hl:=hl hge
  have h1:(ys.length:Int)<=(p:Int):=Int.ofNat_le.mpr hge
  have e1:Hp k ys p=ys++List.replicate (p+1 - ys.length) (Dq k):=if_pos hge
  have hr:Cj Aa (d+2+1) .DJ [.s (.int ((p:Int)+1))] (.s (.int ((p:Int)+1))):=DJ (by exact qH ‹_› (by rfl))
  have Ba:p < (ys++List.replicate (p+1 - ys.length) (Dq k)).length:=by rw[C2,List.length_replicate];exact fW ‹_›
  have b1:(ys.length:Int)<=BR:=by unfold BR;exact qH hy (by rfl)
  have b2:(p:Int)+1<=BR:=by unfold BR;exact qI hp (by rfl)
  have b3:(0:Int)<=(p:Int)+1:=by exact Int.le_of_lt qK
  have b4:ys.length<=1000:=by exact zz hy (by rfl)
  have b5:ys.length+(DX (ys.length:Int) ((p:Int)+1)).length<=200:=by rw[Ff];exact f1 (Nat.le_succ_of_le hge) hp (by rfl)
  have c0:∀n:Nat,p+1 - n<=1000:=fun n=>by exact fF hp (by rfl)
  have c1:∀l:List TV,l.length<=p+1->((p:Int)+1) - (l.length:Int)=((p+1 - l.length:Nat):Int):=fun l h=>by exact cZ ‹_›
  have c2:∀l:List TV,l.length<=p+1->l.length+(List.replicate (p+1 - l.length) FJ).length<=5000:=fun l h=>by rw[List.length_replicate];exact f1 h hp (by rfl)
  have c3:∀l:List TV,l.length+1<=p+1->l.length+1<=5000:=fun l h=>by exact Nat.le_trans h (zz hp (by rfl))
  rw[e1]
  unfold E8
  rw[if_pos hge]
  cases ns with
  | some l=>
   cases mo with
   | none=>
    have hl:l.length<=p+1:=hl
    obtain⟨e5,g⟩:=Q6 (Aa:=Aa) (d:=d+1) (l:=l) (mo:=none) (e1:=some (il ((p:Int)+1))) (e2:=some (.f (.n .lst l))) (e3:=some (sv .none)) (e4:=some (il (ys.length:Int))) (e6:=none) hk (DX (ys.length:Int) ((p:Int)+1)) ys none b5
    rw[Ff]at g
    have x:TS Aa (d+4) ((Pv.drop 4).take 1) (Jx v val notes p none (some l) k) (oL k ys (some l)) (.ok ((Jx v val notes p none (some l) k).set 8 (some (sv .none)),none) (LN k (ys++List.replicate (p+1 - ys.length) (Dq k)) (C4 l (p+1))++[.lst false [FJ],.lst false (List.replicate ys.length FJ),.fz (.n .lst (C4 l (p+1))),.lst false [FJ],.lst false (List.replicate (p+1 - l.length) FJ)])):=QS (.b .z) fun q=>q h1 hr (Int.natCast_nonneg _) b1 b3 b2 g rfl b4 (c1 l hl) (c0 _) (c2 l hl) Cy BL (BK rfl)
    cases hw with
    | li h hs=>exact BJ.app x (QZ .z fun q=>q (h _) (hs _) Ba)
    | ato h hc=>exact BJ.app x (QZ .z fun q=>q (h _) hc Ba)
   | some j=>
    have hl:l.length+1<=p+1:=hl
    have hl2:(l++[TV.s (.w j)]).length<=p+1:=by rw[C2];exact hl
    obtain⟨e5,g⟩:=Q6 (Aa:=Aa) (d:=d+1) (l:=l) (mo:=some (.s (.w j))) (e1:=some (il ((p:Int)+1))) (e2:=some (.f (.n .lst l))) (e3:=some (.r 3)) (e4:=some (il (ys.length:Int))) (e6:=none) hk (DX (ys.length:Int) ((p:Int)+1)) ys none b5
    rw[Ff]at g
    have x:TS Aa (d+4) ((Pv.drop 4).take 1) (Jx v val notes p (some j) (some l) k) (oL k ys (some l)) (.ok ((Jx v val notes p (some j) (some l) k).set 8 (some (.r 3)),none) (LN k (ys++List.replicate (p+1 - ys.length) (Dq k)) (C4 (l++[.s (.w j)]) (p+1))++[.lst false [.s (.w j)],.lst false [FJ],.lst false (List.replicate ys.length FJ),.fz (.n .lst (C4 (l++[.s (.w j)]) (p+1))),.lst false [FJ],.lst false (List.replicate (p+1 - (l++[TV.s (.w j)]).length) FJ)])):=QS (.b .z) fun q=>q h1 hr (Int.natCast_nonneg _) b1 b3 b2 g rfl b4 (c3 l hl) (c1 _ hl2) (c0 _) (c2 _ hl2) Cy BL (BK rfl)
    cases hw with
    | li h hs=>exact BJ.app x (QZ .z fun q=>q (h _) (hs _) Ba)
    | ato h hc=>exact BJ.app x (QZ .z fun q=>q (h _) hc Ba)
  | none=>
   cases mo with
   | none=>
    obtain⟨e5,g⟩:=S5 (Aa:=Aa) (d:=d+1) (mo:=none) (e1:=some (il ((p:Int)+1))) (e2:=some (sv .none)) (e3:=some (sv .none)) (e4:=some (il (ys.length:Int))) (e6:=none) hk (DX (ys.length:Int) ((p:Int)+1)) ys none b5
    rw[Ff]at g
    have x:TS Aa (d+4) ((Pv.drop 4).take 1) (Jx v val notes p none none k) (oL k ys none) (.ok ((Jx v val notes p none none k).set 8 (some (sv .none)),none) (LP k (ys++List.replicate (p+1 - ys.length) (Dq k)))):=QS (.b .z) fun q=>q h1 hr (Int.natCast_nonneg _) b1 b3 b2 g
    cases hw with
    | li h hs=>exact BJ.app x (QZ .z fun q=>q (h _) (hs _) Ba)
    | ato h hc=>exact BJ.app x (QZ .z fun q=>q (h _) hc Ba)
   | some j=>
    have hl:(List.replicate ys.length FJ).length+1<=p+1:=hl
    have hl2:(List.replicate ys.length FJ++[TV.s (.w j)]).length<=p+1:=by rw[C2];exact hl
    obtain⟨e5,g⟩:=S5 (Aa:=Aa) (d:=d+1) (mo:=some (.s (.w j))) (e1:=some (il ((p:Int)+1))) (e2:=some (sv .none)) (e3:=some (.r 2)) (e4:=some (il (ys.length:Int))) (e6:=none) hk (DX (ys.length:Int) ((p:Int)+1)) ys none b5
    rw[Ff]at g
    have x:TS Aa (d+4) ((Pv.drop 4).take 1) (Jx v val notes p (some j) none k) (oL k ys none) (.ok ((Jx v val notes p (some j) none k).set 8 (some (.r 2)),none) ([.lst false (ys++List.replicate (p+1 - ys.length) (Dq k)),.ins .vector [(0,sv (.w k)),(1,.r 0),(2,.r 7),(4,bl false)],.lst false [.s (.w j)],.lst false [FJ],.fz (.n .lst (C4 (List.replicate ys.length FJ++[.s (.w j)]) (p+1))),.lst false [FJ],.lst false (List.replicate (p+1 - (List.replicate ys.length FJ++[TV.s (.w j)]).length) FJ),.dct [(5,AD 9 (C4 (List.replicate ys.length FJ++[.s (.w j)]) (p+1)) (.s .none))]])):=QS (.b .z) fun q=>q h1 hr (Int.natCast_nonneg _) b1 b3 b2 g rfl b4 (c3 _ hl) (c1 _ hl2) (c0 _) (c2 _ hl2) Cy BL (BK rfl)
    cases hw with
    | li h hs=>exact BJ.app x (QZ .z fun q=>q (h _) (hs _) Ba)
    | ato h hc=>exact BJ.app x (QZ .z fun q=>q (h _) hc Ba)
 .have h1:¬(ys.length:Int)<=(p:Int):=fun h=>hge (Int.ofNat_le.mp h)
  have e1:Hp k ys p=ys:=if_neg hge
  have Ba:p < ys.length:=Nat.lt_of_not_le hge
  rw[e1]
  unfold E8
  rw[if_neg hge]
  cases ns with
  | some l=>
   cases hw with
   | li h hs=>exact QZ (.c .z) fun q=>q h1 (h _) (hs _) Ba
   | ato h hc=>exact QZ (.c .z) fun q=>q h1 (h _) hc Ba
  | none=>
   cases hw with
   | li h hs=>exact QZ (.c .z) fun q=>q h1 (h _) (hs _) Ba
   | ato h hc=>exact QZ (.c .z) fun q=>q h1 (h _) hc Ba
end
section
variable{Aa:List Int}{d k k' kq w p:Nat}{xs ys zs:List TV}{ns nq:Option (List TV)}{a x n val notes:TV}{mo:Option Nat}
theorem Cv.kind(h:Cv k k' xs ys):Kv k/\Kv k':=by
 cases h with
 | same h=>exact⟨h,h⟩
 | list h=>exact⟨.inr h,.inl rfl⟩
 | dec=>exact⟨.inr (.inl rfl),.inr (.inr rfl)⟩
theorem Cv.len(h:Cv k k' xs ys):ys.length=xs.length:=by
 cases h with
 | same h=>rfl
 | list h=>exact List.length_map _
 | dec=>exact List.length_map _
theorem PN(hc:Cv k k' xs ys)(hq:Kv kq)(h1:k=7\/zs.length=1)(he:Cj Aa (d+8) .AY [AD k xs (D1 ns),AD kq zs a] (.s (.w k'))):
  TS Aa (d+8) (Pv.take 4) [some (.f (AD k xs (D1 ns))),some (il (p:Int)),some (.f (YT mo)),some (.f (AD kq zs a)),some (.f notes),none,none,none,none] [] (.ok (Jx (AD k xs (D1 ns)) (AD kq zs a) notes p mo ns k',none) (oL k' ys ns)):=by
 have c0:=NG (Aa:=Aa) (d:=d+1) (ns:=ns) (n:=notes) hc
 have n0:=AO (Aa:=Aa) (d:=d+5) (xs:=xs) (ns:=ns) hc.kind.1
 have l0:=Mq (Aa:=Aa) (d:=d+7) (xs:=zs) (a:=a) hq
 have z0:∀{P:Prop},¬k=7->(zs.length=1->P)->P:=fun h f=>f (h1.resolve_left h)
 cases hc with
 | same hk=>
  rcases hk with rfl | rfl | rfl
  .cases ns<;>exact QS .z fun q=>q n0 Az he
  .refine z0 (by decide) fun h=> ?_
   rw[h]at l0
   cases ns<;>exact QS .z fun q=>q n0 Az l0 l0 he
  .refine z0 (by decide) fun h=> ?_
   rw[h]at l0
   cases ns<;>exact QS .z fun q=>q n0 Az l0 l0 he
 | list hk=>
  rcases hk with rfl | rfl
  .refine z0 (by decide) fun h=> ?_
   rw[h]at l0
   cases ns<;>exact QS .z fun q=>q n0 Az l0 l0 he c0
  .refine z0 (by decide) fun h=> ?_
   rw[h]at l0
   cases ns<;>exact QS .z fun q=>q n0 Az l0 l0 he c0
 | dec hi=>
  refine z0 (by decide) fun h=> ?_
  rw[h]at l0
  cases ns<;>exact QS .z fun q=>q n0 Az l0 l0 he c0
theorem SY(hc:Cv k k' xs ys)(hq:Kv kq)(h1:k=7\/zs.length=1)(he:Cj Aa (d+8) .AY [AD k xs (D1 ns),AD kq zs a] (.s (.w k'))){w:TV}(hw:Wv Aa (d+8) notes k' (AD kq zs a) w)
  (hx:xs.length<=90) (hp:p < 100) (hl:xs.length<=p->(ns.getD (List.replicate xs.length FJ)).length+(Kd mo).toList.length<=p+1):
  Cj Aa (d+9) .AQ [AD k xs (D1 ns),.s (.int (p:Int)),YT mo,AD kq zs a,notes] (AD k' ((Hp k' ys p).set p w) (D1 (E8 xs.length ns mo p))):=by
 have e:=hc.len
 have t:=Sz (Aa:=Aa) (d:=d+4) (v:=AD k xs (D1 ns)) (ns:=ns) (mo:=mo) (ys:=ys) hc.kind.2 hw (by rw[e];exact hx) hp (by rw[e];exact hl)
 rw[e]at t
 exact QB (r:= .ok _) rfl rfl (.app (PN hc hq h1 he) t)
end
noncomputable def one(k k':Nat)(x:TV):TV:=if k=k' then x else JT x
noncomputable def Eh(ts:List Aj)(p:Nat):List Aj:=if ts.length<=p then ts++List.replicate (p+1 - ts.length) .null else ts
noncomputable def Dj(t:Aj)(p:Nat)(mo:Option Nat)(q:Aj):Except Nat Aj:=match t with
 | .null=> .ok .null
 | .list ts ns=> .ok (.list ((Eh ts p).set p q) (E8 ts.length ns mo p))
 | .atom k xs ns=>match q with
  | .null=> .error 33
  | .atom _ [] _=> .error 33
  | .atom kq [y] _=> .ok (.atom (D4 k kq) ((Hp (D4 k kq) (xs.map (one k (D4 k kq))) p).set p (one kq (D4 k kq) y)) (E8 xs.length ns mo p))
  | .atom _ _ _=> .error 34
  | .list [] _=> .error 33
  | .list [_] _=> .ok (.list ((Eh (xs.map fun x=> .atom k [x] none) p).set p q) (E8 xs.length ns mo p))
  | .list _ _=> .error 34
theorem DN{ts:List Aj}:(Aj.vs ts).length=ts.length:=by rw[Fu,List.length_map]
theorem Qy{ts:List Aj}{p:Nat}{q:Aj}:Aj.vs ((Eh ts p).set p q)=(Hp 7 (Aj.vs ts) p).set p q.v:=by
 rw[Fu,List.map_set]
 unfold Eh Hp
 rw[DN]
 by_cases h:ts.length<=p
 .rw [if_pos h,if_pos h,List.map_append,List.map_replicate,Fu];rfl
 .rw [if_neg h,if_neg h,Fu]
section
variable{Aa:List Int}{d k k' kq w p m m':Nat}{xs ys zs:List TV}{ns nq:Option (List TV)}{a x n val notes:TV}{mo:Option Nat}{st:Bool}{t q:Aj}
theorem IZ(hk:Ka k)(h:Cj Aa (d+3) .CK [val] (.s (.int 0))):bQ Aa (d+4) .AQ [AD k xs (D1 ns),.s (.int (p:Int)),a,val,notes] 33:=by
 have n0:=AO (Aa:=Aa) (d:=d) (xs:=xs) (ns:=ns) (.inr hk)
 rcases hk with rfl | rfl<;>exact QF .z fun q=>q n0 Az h
theorem LE{n:Nat}(hk:Ka k)(h:Cj Aa (d+3) .CK [val] (.s (.int (n:Int))))(hn:2<=n):bQ Aa (d+4) .AQ [AD k xs (D1 ns),.s (.int (p:Int)),a,val,notes] 34:=by
 have n0:=AO (Aa:=Aa) (d:=d) (xs:=xs) (ns:=ns) (.inr hk)
 have h1:(n:Int)≠0:=by exact fun e=>qM ‹_› e
 have h2:(1:Int) < (n:Int):=by exact qG ‹_›
 rcases hk with rfl | rfl<;>exact QF (aa 3 (.b (.a (.b .z)))) fun q=>q n0 Az h (ZY h1) h h2
theorem Nr:Ka (D4 k kq):=by
 by_cases h:k=8/\kq=8
 .exact .inl (if_pos h)
 .exact .inr (if_neg h)
theorem OT:(Kd mo).toList.length=mo.toList.length:=by cases mo<;>rfl
theorem Fh:xs.map (one k k)=xs:=by
 have:one k k=id:=funext fun x=>if_pos rfl
 rw[this,List.map_id]
theorem ZA{kq:Nat}(hk:Ka k)(hkq:Ka kq)(hi:k=8->∀x ∈ xs,∃i:Int,x=.s (.int i)/\0<=i/\i<=100000):Cv k (D4 k kq) xs (xs.map (one k (D4 k kq))):=by
 rcases hk with rfl | rfl
 .rcases hkq with rfl | rfl
  .exact (Fh (xs:=xs) (k:=8)).symm▸Cv.same (.inr (.inl rfl))
  .exact Cv.dec (hi rfl)
 .exact (Fh (xs:=xs) (k:=9)).symm▸Cv.same (.inr (.inr rfl))
theorem X6{kq:Nat}{y:TV}(hk:Ka k)(hkq:Ka kq)(hi:kq=8->∀x ∈ [y],∃i:Int,x=.s (.int i)/\0<=i/\i<=100000):Cv kq (D4 k kq) [y] [one kq (D4 k kq) y]:=by
 rcases hkq with rfl | rfl
 .rcases hk with rfl | rfl
  .exact Cv.same (.inr (.inl rfl))
  .exact Cv.dec (hi rfl)
 .rcases hk with rfl | rfl<;>exact Cv.same (.inr (.inr rfl))
theorem Sn(ht:Bf true m t)(VT:t≠.null)(hq:Bf st m' q)(hsq:st=true\/∃ts ns,t=.list ts ns)(hlq:(∃ts ns,t=.list ts ns)->q≠.null)(hp:p < 100)(hl:(match t with | .null=>0 | .atom _ xs _=>xs.length | .list ts _=>ts.length)<=p->(match t with | .null=>0 | .atom _ xs _=>xs.length | .list ts _=>ts.length)+mo.toList.length<=p+1):
  FP Aa (d+9) .AQ [t.v,.s (.int (p:Int)),YT mo,q.v,notes] ((Dj t p mo q).map Aj.v):=by
 have nl:∀{n:Nat} {ns:Option (List TV)},M0 ns n->(n<=p->n+mo.toList.length<=p+1)->n<=p->(ns.getD (List.replicate n FJ)).length+(Kd mo).toList.length<=p+1:=fun {n ns} h1 h2 h3=>by
  rw[OT]
  cases ns with
  | none=>rw[show(none:Option (List TV)).getD (List.replicate n FJ)=List.replicate n FJ from rfl,List.length_replicate];exact h2 h3
  | some l=>rw[show(some l).getD (List.replicate n FJ)=l from rfl,(h1 l rfl).2];exact h2 h3
 cases ht with
 | null=>exact absurd rfl VT
 | @list _ ts ns hxs hn hs4 hts=>
  have hqn:=hlq ⟨ts,ns,rfl⟩
  have hl:ts.length<=p->ts.length+mo.toList.length<=p+1:=hl
  have hl2:=nl hn hl
  rw[<-DN (ts:=ts)]at hl2
  have go:∀{kq zs a},Kv kq->Cj Aa (d+9) .AQ [(Aj.list ts ns).v,.s (.int (p:Int)),YT mo,AD kq zs a,notes] (AD 7 ((Hp 7 (Aj.vs ts) p).set p (AD kq zs a)) (D1 (E8 (Aj.vs ts).length ns mo p))):=fun h=>SY (.same (.inl rfl)) h (.inl rfl) Qh .list (by rw[DN];exact zz ‹_› (by rfl)) hp hl2
  show Cj Aa (d+9) _ _ (AD 7 (Aj.vs ((Eh ts p).set p q)) (D1 (E8 ts.length ns mo p)))
  rw[Qy,<-DN (ts:=ts)]
  cases hq with
  | null=>exact absurd rfl hqn
  | atom hk=>exact go (.inr hk)
  | list=>exact go (.inl rfl)
 | @atom _ k xs ns hk hxs hn hi=>
  have hl2:=nl hn hl
  have hx:xs.length<=90:=by exact zz ‹_› (by rfl)
  cases hq with
  | null=>exact IZ (d:=d+5) hk N0
  | @atom _ kq ys nq hkq hys hnq hiq=>
   rcases ys with _ | ⟨y,_ | ⟨y2,r⟩⟩
   .exact IZ (d:=d+5) hk (Mq (.inr hkq))
   .have ek:=PQ (Aa:=Aa) (d:=d+5) (xs:=xs) (a:=D1 ns) (ys:=[y]) (b:=D1 nq) hk hkq
    have c1:=ZA (xs:=xs) hk hkq (hi.2 rfl).2
    have c2:=X6 (y:=y) hk hkq fun e=>(hiq.2 (hsq.elim id fun⟨_,_,h⟩=>nomatch h)).2 e
    exact SY c1 (.inr hkq) (.inr rfl) ek (.atom Nr (NG (d:=d+2) c2)) hx hp hl2
   .exact LE (d:=d+5) hk (Mq (.inr hkq)) (by simp)
  | @list _ us nq hus hnq hs5 hts=>
   rcases us with _ | ⟨u,_ | ⟨u2,r⟩⟩
   .exact IZ (d:=d+5) hk (Mq (.inl rfl))
   .have g:=SY (Aa:=Aa) (d:=d) (p:=p) (mo:=mo) (notes:=notes) (ns:=ns) (Cv.list (xs:=xs) hk) (kq:=7) (zs:=[u.v]) (a:=D1 nq) (.inl rfl) (.inr rfl) (Nu hk) .list hx hp hl2
    show Cj Aa (d+9) _ _ (AD 7 (Aj.vs ((Eh (xs.map fun x=> .atom k [x] none) p).set p (.list [u] nq))) (D1 (E8 xs.length ns mo p)))
    rw[Qy,Fu,List.map_map]
    exact g
   .exact LE (d:=d+5) hk (Mq (.inl rfl)) (by rw[DN];simp)
end
noncomputable def Da{α:Type}(p:Nat):Nat->List α->List α
 | _,[]=>[]
 | i,x::xs=>if i=p then Da p (i+1) xs else x::Da p (i+1) xs
theorem GZ{α:Type}{p:Nat}:∀{xs:List α} {i:Nat},Da p i xs=if i<=p then xs.eraseIdx (p - i)else xs
 | [],i=>by simp[Da]
 | x::xs,i=>by
  show(if i=p then Da p (i+1) xs else x::Da p (i+1) xs)=_
  rw[GZ]
  by_cases h:i=p
  .subst h
   rw[if_pos rfl,if_neg (Nat.not_succ_le_self i),if_pos (Nat.le_refl _),Nat.sub_self];rfl
  .rw [if_neg h]
   by_cases h2:i<=p
   .rw [if_pos (show i+1<=p from Nat.lt_of_le_of_ne h2 h),if_pos h2,show p - i=(p - (i+1))+1 by exact f5 ‹_› ‹_›,List.eraseIdx_cons_succ]
   .rw [if_neg fun h=>h2 (Nat.le_of_succ_le h),if_neg h2]
theorem Ov{α:Type}{p:Nat}{xs:List α}:Da p 0 xs=xs.eraseIdx p:=by rw[GZ,if_pos (Nat.zero_le _),Nat.sub_zero]
section
variable{Aa:List Int}{d k w p:Nat}{xs:List TV}{ns:Option (List TV)}{a x n:TV}
theorem LJ:Cj Aa (d+1) .B3 [.n .lst [.s (.int (p:Int))]] (.s (.int ((p:Int)+1))):=
 QF .z fun q=>q (.next (QS (.a (.b .z)) fun q=>q (Int.natCast_nonneg p)) .nil)
theorem Sk{it:ME Fn}{b:List (MS Fn)}{i:Nat}{env:AA}{L:List LC}{y:TV}(h:Sm RV AF (Ac (CS Aa d) it) env L (.ok (.f (.n (.dct [5]) [y])) L))(hi:i < env.length)(hb:∀(e:Mine.Env) H,e[i]? =some (some (.w 5))->Ak (CS Aa d) b e H=.ok (e,none) H):
  Sm RV HG (E6 (CS Aa d) (.forD i it b)) env L (.ok (env.set i (some (sv (.w 5))),none) L):=fun F w s r hs=>by
 obtain⟨v,w1,e1,n,q⟩:=h F w s r hs
 cases q with
 | @n _ _ a vs g1 g2 g3=>
  cases g3 with
  | @cons _ u _ _ x1 x2=>
   cases x2
   have g:w1.H[a]? =some (.dictW [(5,u)]):=DF g1.2
   have lt:=(EK.mp g).1
   have e2:ER (fun x env=>Ak (CS Aa d) b (env.set i (some x))) (stays (.ref a) (.dictP [(5,u)])) [.w 5] s (w1.H.set a (.dictP [(5,u)]))=.ok (s.set i (some (.w 5)),none) (w1.H.set a (.dictP [(5,u)])):=
    (Av (hb _ _ (GS (by rw[hs.len];exact hi)))).trans ((Av (Ji (GS lt))).trans rfl)
   refine⟨(s.set i (some (.w 5)),none),w1,(Av e1).trans ((Av (m:=getD (.ref a)) (a:=[(5,u)]) (Ap g rfl)).trans (Ie ((Av (IT e2)).trans (Ie ?_)))),n,(AI n.l n.p hs).set (OV.so (a:=sv _) .s) i,.no⟩
   rw[List.set_set,Jj g];rfl
noncomputable abbrev bV:List (MS Fn):=[.ifs (.cmp .notin (.O 8) (.O 4)) [.asg 9 (.cmp .lt (.O 8) (.len (.attr (.O 0) 1))),.ex (.append (.O 6) (.ite (.O 9) (.idx (.attr (.O 0) 1) (.O 8)) (.mk .null []))),.ifs (.isNone true (.O 2)) [.ex (.append (.O 7) (.ite (.O 9) (.idx (.O 2) (.O 8)) (.cst (.w 16))))] []] []]
theorem GV{e1 e3 e5:Option LV}{ns:Option (List TV)}{a:TV}(hx:xs.length<=100)(hn:∀l,ns=some l->l.length=xs.length):∀(n i:Nat) (out lo:List TV) (e8 e9:Option LV),i+n=xs.length->out.length<=i->lo.length<=i->
  ∃e8' e9',DL (Ak (CS Aa (d+1)) bV) 8 (Ja i n) [some (.f (AD 7 xs a)),e1,some (.f (R6 ns)),e3,some (.r 0),e5,some (.r 1),some (.r 2),e8,e9,none,none] [.dci [((p:Int),.s (.bool true))],.lst false out,.lst false lo]
   (.ok ([some (.f (AD 7 xs a)),e1,some (.f (R6 ns)),e3,some (.r 0),e5,some (.r 1),some (.r 2),e8',e9',none,none],none) [.dci [((p:Int),.s (.bool true))],.lst false (out++Da p i (xs.drop i)),.lst false (lo++match ns with | none=>[] | some l=>Da p i (l.drop i))])
 | 0,i,out,lo,e8,e9,h,_,_=>⟨e8,e9,by
  have e:∀l:List TV,l.length=xs.length->l.drop i=[]:=fun l hl=>List.drop_eq_nil_iff.mpr (by exact Nat.le_of_eq (Eq.trans ‹_› (Eq.symm ‹_›)))
  rw[e xs rfl]
  cases ns with
  | none=>rw[show Da p i ([]:List TV)=[]from rfl,List.append_nil,List.append_nil];exact .nil
  | some l=>dsimp only;rw[e l (hn l rfl),show Da p i ([]:List TV)=[]from rfl,List.append_nil,List.append_nil];exact .nil⟩
 | n+1,i,out,lo,e8,e9,h,ho,hlo=>by
  have hi:i < xs.length:=by exact cJ ‹_›
  have ed:∀l:List TV,(hl:i < l.length)->l.drop i=l[i]::l.drop (i+1):=fun l hl=>List.drop_eq_getElem_cons hl
  have hxi:xs[i]? =some xs[i]:=List.getElem?_eq_getElem hi
  have lt:(i:Int) < (xs.length:Int):=Int.ofNat_lt.mpr hi
  have l1:out.length < 5000:=by exact qZ ‹_› ‹_› ‹_› (by rfl)
  have l2:lo.length < 5000:=by exact qZ ‹_› ‹_› ‹_› (by rfl)
  by_cases hp:i=p
  .obtain ⟨e8',e9',g⟩:=GV (e1:=e1) (e3:=e3) (e5:=e5) (a:=a) hx hn n (i+1) out lo (some (il i)) e9 (by exact bH ‹_›) (by exact Nat.le_succ_of_le ‹_›) (by exact Nat.le_succ_of_le ‹_›)
   have hs:(look (i:Int) [((p:Int),TV.s (.bool true))]).isSome=true:=by rw[hp];exact congrArg Option.isSome (if_pos rfl)
   have ea:∀{l:List TV},i < l.length->Da p i (l.drop i)=Da p (i+1) (l.drop (i+1)):=fun hl=>by rw[ed _ hl];exact if_pos hp
   rw[ea hi]
   cases ns with
   | none=>exact⟨e8',e9',.next (QS (.b .z) fun q=>q hs) g⟩
   | some l=>dsimp only;rw[ea (by rw[hn l rfl];exact hi)];exact⟨e8',e9',.next (QS (.b .z) fun q=>q hs) g⟩
  .have hs:(look (i:Int) [((p:Int),TV.s (.bool true))]).isSome=false:=congrArg Option.isSome (if_neg (show ¬((p:Int)=(i:Int)) by exact fun e=>(by assumption:¬_) (Int.ofNat.inj e).symm))
   have ea:∀{l:List TV} (hl:i < l.length),Da p i (l.drop i)=l[i]::Da p (i+1) (l.drop (i+1)):=fun hl=>by rw[ed _ hl];exact if_neg hp
   rw[ea hi]
   cases ns with
   | none=>
    obtain⟨e8',e9',g⟩:=GV (e1:=e1) (e3:=e3) (e5:=e5) (a:=a) (ns:=none) hx hn n (i+1) (out++[xs[i]]) lo (some (il i)) (some (bl true)) (by exact bH ‹_›) (by rw[C2];exact Nat.succ_le_succ ho) (by exact Nat.le_succ_of_le ‹_›)
    rw[List.append_assoc]at g
    exact⟨e8',e9',.next (QS (.c (.b (.b .z))) fun q=>q hs lt hxi l1) g⟩
   | some l=>
    have hl:=hn l rfl
    have hli:l[i]? =some (l[i]'(by rw[hl];exact hi)):=List.getElem?_eq_getElem _
    dsimp only
    rw[ea (l:=l) (by rw[hl];exact hi)]
    obtain⟨e8',e9',g⟩:=GV (e1:=e1) (e3:=e3) (e5:=e5) (a:=a) (ns:=some l) hx hn n (i+1) (out++[xs[i]]) (lo++[l[i]'(by rw[hl];exact hi)]) (some (il i)) (some (bl true)) (by exact bH ‹_›) (by rw[C2];exact Nat.succ_le_succ ho) (by rw[C2];exact Nat.succ_le_succ hlo)
    rw[List.append_assoc,List.append_assoc]at g
    exact⟨e8',e9',.next (QS (.c (.b (.b (.a (.b .z))))) fun q=>q hs lt hxi l1 hli l2) g⟩
end
section
variable{Aa:List Int}{d k w p:Nat}{xs:List TV}{ns:Option (List TV)}{a x n:TV}
noncomputable abbrev TE(Aa:List Int)(d:Nat)(e:ME Fn)(env:AA)(L:List LC)(out:Oc LV):Prop:=Sm RV AF (Ac (CS Aa d) e) env L out
noncomputable abbrev hV(Aa:List Int)(d:Nat)(e:ME Fn)(env:AA)(L:List LC)(sc:Sc):Prop:=PA env fun e1=>PA L fun L1=>RE Aa (OC Aa d) bw d e e1 L1 sc (fun v L1 J=>TE Aa d e env L (.ok v L1)) fun m L1 J=>TE Aa d e env L (.exc m L1)
theorem QE{e:ME Fn}{env:AA}{L:List LC}{out:Oc LV}(sc:Sc)(h:hV Aa d e env L sc->TE Aa d e env L out):TE Aa d e env L out:=
 h (Fj (Fj (ML Aa _ bw d (HF Aa d) e env L sc _ _ (fun J J J h=>h) fun J J J h=>h)))
theorem YF(e:Mine.Env)(H:MH)(h:e[11]? =some (some (.w 5))):Ak (CS Aa d) [.ifs (.inW true (.O 11) [5,25,31]) [.bad] []] e H=.ok (e,none) H:=
 have e1:Ac (CS Aa d) (.inW true (.O 11) [5,25,31]) e H=.ok (.bool false) H:=(Av (Bs (x:= .w 5) (by rw[h];rfl))).trans rfl
 (Av (m:=E6 (CS Aa d) (.ifs (.inW true (.O 11) [5,25,31]) [.bad] []) e) ((Av e1).trans rfl)).trans rfl
theorem Ss(hx:xs.length<=90)(hn:∀l,ns=some l->l.length=xs.length)(hp:p < xs.length):Cj Aa (d+5) .BA [AD 7 xs (D1 ns),.n .lst [.s (.int (p:Int))]] (AD 7 (xs.eraseIdx p) (D1 (ns.map (·.eraseIdx p)))):=by
 have n0:=AO (Aa:=Aa) (d:=d+1) (k:=7) (xs:=xs) (ns:=ns) (.inl rfl)
 have r0:=DJ (Aa:=Aa) (d:=d+3) (i:=(xs.length:Int)) (by exact qH ‹_› (by rfl))
 have h1:¬(p:Int)+1 > (xs.length:Int):=by exact fun e=>f6 ‹_› e
 have pl:p<=BR:=by unfold BR;exact Nat.le_trans (Nat.le_of_lt ‹_›) (zz ‹_› (by rfl))
 obtain⟨e8,e9,g⟩:=GV (Aa:=Aa) (d:=d+3) (p:=p) (xs:=xs) (ns:=ns) (a:=D1 ns) (e1:=some (.f (.n .lst [.s (.int (p:Int))]))) (e3:=some (il (xs.length:Int))) (e5:=some (il (p:Int))) (by exact zz ‹_› (by rfl)) hn xs.length 0 [] [] none none (Nat.zero_add _) (Nat.le_refl _) (Nat.le_refl _)
 rw[List.drop_zero,Ov,List.nil_append,List.nil_append]at g
 cases ns with
 | none=>exact QF (.a (.a (.c .z))) fun q=>q n0 LJ h1 r0 (.next (QS .z fun q=>q pl (BK rfl)) .nil) rfl (by exact zz ‹_› (by rfl)) (EZ g)
 | some l=>
  dsimp only at g
  rw[List.drop_zero,Ov]at g
  exact QF (.a (.a (.c .z))) fun q=>q n0 LJ h1 r0 (.next (QS .z fun q=>q pl (BK rfl)) .nil) rfl (by exact zz ‹_› (by rfl)) (EZ g) (Sk (QE .z fun q=>q) (BK rfl) YF) Cy BL (BK rfl)
end
noncomputable def Aj.len:Aj->Nat
 | .null=>0
 | .atom _ xs _=>xs.length
 | .list ts _=>ts.length
noncomputable def Bv:El->Option Nat
 | .nm k=>some k
 | _=>none
noncomputable def Ll(t q:Aj)(mo:Option Nat):Pl->Except Nat Aj
 | .na=> .error 28
 | .no=>match t,q with
  | .list _ _,.null=> .ok t
  | _,_=>Dj t t.len mo q
 | .at n=>match t,q with
  | .list ts ns,.null=>if ts.length<=n then .ok t else .ok (.list (ts.eraseIdx n) (ns.map (·.eraseIdx n)))
  | _,_=>Dj t n none q
noncomputable def Cf(t:Aj)(key:El)(q:Aj):Except Nat Aj:=(AP t.names true key).bind (Ll t q (Bv key))
noncomputable abbrev gS:List (MS Fn):=(prog .AC).body.drop 1
section
variable{Aa:List Int}{d k k' kq w p m m':Nat}{xs ys zs:List TV}{ns nq:Option (List TV)}{a x n val notes:TV}{mo:Option Nat}{st:Bool}{t q:Aj}{key:El}
theorem Lx:∀{ts:List Aj} {p:Nat},Aj.vs (ts.eraseIdx p)=(Aj.vs ts).eraseIdx p
 | [],_=>rfl
 | t::ts,0=>rfl
 | t::ts,p+1=>congrArg (List.cons t.v) Lx
inductive Bf.vecI(t:Aj):Prop
 | mk (k:_) (xs:_) (ns:_) (q0:t.v=AD k xs (D1 ns)) (q1:Kv k) (q2:FM ns) (q3:xs.length=t.len) (q4:t.len<=8) (q5:t.names=ns) (q6:(∀l,ns=some l->l.length=xs.length)) (q7:(∀ts ns',t=.list ts ns'->xs=Aj.vs ts/\ns=ns'/\k=7)) (q8:(∀k' xs' ns',t=.atom k' xs' ns'->Ka k)):Bf.vecI t
theorem Bf.vec(h:Bf st m t)(h0:t≠.null):Bf.vecI t:=by
 cases h with
 | null=>exact absurd rfl h0
 | atom hk hx hn=>exact⟨_,_,_,rfl,.inr hk,hn.ok hx,rfl,hx,rfl,fun l h=>(hn l h).2,fun J J e=>(by cases e),fun J J J J=>hk⟩
 | list hx hn=>exact⟨_,_,_,rfl,.inl rfl,hn.ok hx,DN,hx,rfl,fun l h=>(hn l h).2.trans DN.symm,fun J J e=>(by cases e;exact⟨rfl,rfl,rfl⟩),fun J J J e=>(by cases e)⟩
theorem Pe{k i:Nat}(h:FM ns)(e:E4 ns k true=.at i):i < 80:=by
 cases ns with
 | none=>cases e
 | some l=>
  by_cases h16:k=16
  .subst h16;cases e
  .cases hx:l.findIdx? (DM k)with
   | none=>rw[GQ h16 hx]at e;cases e
   | some j=>
    rw[G0 h16 hx]at e
    cases e
    have:=(List.findIdx?_eq_some_iff_getElem.mp hx).1
    exact Nat.lt_of_lt_of_le this (h l rfl).2
theorem Pp{e4:Option LV}(ht:Bf true m t)(VT:t≠.null)(hq:Bf st m' q)(hsq:st=true\/∃ts ns,t=.list ts ns)(A3:CO key)(hnum:∀i,key=.num i->i<=80):
  BJ Aa (d+9) gS [some (.f t.v),some (.f (Bj key)),some (.f q.v),some (.f notes),e4,none,none,none] [] ((Cf t key q).map Aj.v):=by
 obtain⟨k,xs,ns,hv,hk,hno,Ba,hl8,Dn,hnl,hL,hA⟩:=ht.vec VT
 have n0:=AO (Aa:=Aa) (d:=d+6) (xs:=xs) (ns:=ns) hk
 have e1:=Bo (Aa:=Aa) (d:=d+5) (a:= .s (.int xs.length)) (exact:=true) A3 hno
 unfold Cf
 rw[Dn]
 cases hp:AP ns true key with
 | error e=>rw[hp]at e1;rw[hv];exact QZ (.a (.b .z)) fun q=>q n0 e1
 | ok pl=>
  rw[hp]at e1
  show BJ _ _ _ _ _ ((Ll t q (Bv key) pl).map Aj.v)
  cases pl with
  | na=>rw[hv];exact QZ .z fun q=>q n0 e1
  | no=>
   have put:(∀ts ns',t=.list ts ns'->q≠.null)->FP Aa (d+9) .AQ [AD k xs (D1 ns),.s (.int (xs.length:Int)),YT (Bv key),q.v,notes] ((Dj t t.len (Bv key) q).map Aj.v):=fun h=>by
    have g:=Sn (Aa:=Aa) (d:=d) (p:=t.len) (mo:=Bv key) (notes:=notes) ht VT hq hsq (fun⟨ts,ns',e⟩=>h ts ns' e) (by exact g5 ‹_› (by rfl)) (fun J=>by
     have:(Bv key).toList.length<=1:=by cases key<;>simp[Bv]
     cases t<;>simp only [Aj.len]<;>omega)
    rw[hv]at g
    rw[Ba];exact g
   obtain⟨j,rfl⟩:∃j,key=.nm j:=by
    cases key with
    | na=>cases hp
    | nm j=>exact⟨j,rfl⟩
    | num i=>cases i<;>cases hp
   cases hqn:q with
   | null=>
    subst hqn
    cases t with
    | null=>exact absurd rfl VT
    | list ts ns'=>obtain⟨rfl,rfl,rfl⟩:=hL ts ns' rfl;exact QZ .z fun q=>q n0 e1 Az
    | atom k' xs' ns'=>
     have hk':=hA _ _ _ rfl
     have g:=put (fun J J e=>by cases e)
     rw[hv]
     rcases hk' with rfl | rfl<;>exact QZ (aa 5 (.a (.a (.a (.b .z))))) fun q=>q n0 e1 Az g
   | _=>
    have hq0:q≠.null:=by rw[hqn];intro h;cases h
    rw[<-hqn]
    obtain⟨kq,ys,nq,hqv,hkq,_⟩:=hq.vec hq0
    have g:=put fun J J J=>hq0
    rw[show Ll t q (Bv (.nm j)) .no=Dj t t.len (Bv (.nm j)) q by rw[hqn];cases t<;>rfl]
    rw[hv,hqv]
    rw[hqv]at g
    have h6:kq≠6:=by omega
    cases hr:Dj t t.len (Bv (.nm j)) q with
    | ok r=>rw[hr]at g;exact QZ (aa 3 (.b .z)) fun q=>q n0 e1 (GH h6) g
    | error r=>rw[hr]at g;exact QZ (aa 3 (.b (.a (.a (.a (.b .z)))))) fun q=>q n0 e1 (GH h6) g
  | «at» i=>
   have h0:¬((i:Nat):Int) < 0:=Int.not_lt.mpr (Int.natCast_nonneg i)
   have put:i < 100->(∀ts ns',t=.list ts ns'->q≠.null)->FP Aa (d+9) .AQ [AD k xs (D1 ns),.s (.int (i:Int)),.s .none,q.v,notes] ((Dj t i none q).map Aj.v):=fun hi h=>by
    have g:=Sn (Aa:=Aa) (d:=d) (p:=i) (mo:=none) (notes:=notes) ht VT hq hsq (fun⟨ts,ns',e⟩=>h ts ns' e) hi (fun h=>Nat.le_succ_of_le h)
    rw[hv]at g
    exact g
   have hi:i < 100:=by
    cases key with
    | na=>cases hp
    | num n=>
     have:=hnum n rfl
     cases n with
     | zero=>cases hp
     | succ n=>cases hp;exact zz ‹_› (by rfl)
    | nm j=>
     have:=Pe hno (Except.ok.inj hp)
     exact zz ‹_› (by rfl)
   cases hqn:q with
   | null=>
    subst hqn
    cases t with
    | null=>exact absurd rfl VT
    | list ts ns'=>
     obtain⟨rfl,rfl,rfl⟩:=hL ts ns' rfl
     show BJ _ _ _ _ _ ((if ts.length<=i then _ else _:Except Nat Aj).map Aj.v)
     by_cases h:ts.length<=i
     .rw [if_pos h]
      have h1:((Aj.vs ts).length:Int)<=(i:Int):=by rw[DN];exact Int.ofNat_le.mpr h
      exact QZ (aa 5 (.c (.b .z))) fun q=>q n0 e1 Az h0 h1
     .rw [if_neg h]
      have h1:¬((Aj.vs ts).length:Int)<=(i:Int):=by rw[DN];exact fun q=>h (Int.ofNat_le.mp q)
      have g:=Ss (Aa:=Aa) (d:=d+4) (xs:=Aj.vs ts) (ns:=ns) (p:=i) (by rw[DN];exact Nat.le_trans hl8 (by decide)) hnl (by rw[DN];exact Nat.lt_of_not_le h)
      rw[<-Lx]at g
      exact QZ (aa 5 (.c (.c .z))) fun q=>q n0 e1 Az h0 h1 g
    | atom k' xs' ns'=>
     have hk':=hA _ _ _ rfl
     have g:=put hi (fun J J e=>by cases e)
     rw[hv]
     rcases hk' with rfl | rfl<;>exact QZ (aa 5 (.c (.b .z))) fun q=>q n0 e1 Az h0 g
   | _=>
    have hq0:q≠.null:=by rw[hqn];intro h;cases h
    rw[<-hqn]
    obtain⟨kq,ys,nq,hqv,hkq,_⟩:=hq.vec hq0
    have g:=put hi fun J J J=>hq0
    rw[show Ll t q (Bv key) (.at i)=Dj t i none q by rw[hqn];cases t<;>rfl]
    rw[hv,hqv]
    rw[hqv]at g
    have h6:kq≠6:=by omega
    cases hr:Dj t i none q with
    | ok r=>rw[hr]at g;exact QZ (aa 3 (.b (.c .z))) fun q=>q n0 e1 (GH h6) h0 g
    | error r=>rw[hr]at g;exact QZ (aa 3 (.b (.c (.b .z)))) fun q=>q n0 e1 (GH h6) h0 g
end
noncomputable def BQ(t:Aj)(key:El)(q:Aj):Except Nat Aj:=match t,q with
 | .null,.null=> .ok .null
 | .null,.atom k [y] ns=>Cf (.atom k [] none) key (.atom k [y] ns)
 | .null,q=>Cf (.list [] none) key q
 | t,q=>Cf t key q
section
variable{Aa:List Int}{d k k' kq w p m m':Nat}{xs ys zs:List TV}{ns nq:Option (List TV)}{a x n val notes:TV}{mo:Option Nat}{st:Bool}{t q:Aj}{key:El}
theorem E1:M0 none 0:=fun J h=>by cases h
theorem KY(ht:Bf true m t)(hq:Bf st m' q)(hsq:st=true\/∃ts ns,t=.list ts ns)(A3:CO key)(hnum:∀i,key=.num i->i<=80):
  FP Aa (d+10) .AC [t.v,Bj key,q.v,notes] ((BQ t key q).map Aj.v):=by
 have nn:t≠.null->FP Aa (d+10) .AC [t.v,Bj key,q.v,notes] ((Cf t key q).map Aj.v):=fun h0=>by
  have e:=Pp (Aa:=Aa) (d:=d) (e4:=none) (notes:=notes) ht h0 hq hsq A3 hnum
  obtain⟨k,xs,ns,hv,hk,_⟩:=ht.vec h0
  rw[hv]at e ⊢
  exact QB (f:= .AC) (args:=[.f (AD k xs (D1 ns)),.f (Bj key),.f q.v,.f notes]) rfl rfl (.app (b:=(prog .AC).body.take 1) (QS (.b .z) fun q=>q (GH (show k≠6 by exact fun e=>g9 ‹_› e (by decide)))) e)
 cases t with
 | list ts ns=>exact nn (by intro h;cases h)
 | atom k xs ns=>exact nn (by intro h;cases h)
 | null=>
  have st1:st=true:=hsq.elim id fun⟨_,_,h⟩=>by cases h
  have go:∀k',Bf true 1 (if k'=7 then .list [] none else .atom k' [] none)->(if k'=7 then Aj.list [] none else .atom k' [] none).v=AD k' [] (.s .none)->TS Aa (d+9) ((prog .AC).body.take 1) [some (.f FQ),some (.f (Bj key)),some (.f q.v),some (.f notes),none,none,none,none] [] (.ok ([some (.r 1),some (.f (Bj key)),some (.f q.v),some (.f notes),some (sv (.w k')),none,none,none],none) (LP k' []))->FP Aa (d+10) .AC [FQ,Bj key,q.v,notes] ((Cf (if k'=7 then .list [] none else .atom k' [] none) key q).map Aj.v):=fun k' h1 h2 h3=>by
   have e:=Pp (Aa:=Aa) (d:=d) (e4:=some (sv (.w k'))) (notes:=notes) h1 (by split<;>(intro h;cases h)) hq (.inl st1) A3 hnum
   rw[h2]at e
   have g:=h3.frz (i:=0) rfl (p:=(AD k' [] (.s .none),_)) rfl rfl rfl rfl
   exact QB (f:= .AC) (args:=[.f FQ,.f (Bj key),.f q.v,.f notes]) rfl rfl (.app g e)
  have l0:Bf true 1 (.list [] none):= .list (by decide) E1 (fun J=>by decide) (fun t h=>by cases h)
  have a0:∀{k},Ka k->Bf true 1 (.atom k [] none):=fun h=> .atom h (by decide) E1 ⟨rfl,fun J=>⟨by decide,fun J x h=>by cases h⟩⟩
  cases hq with
  | null=>exact QF .z fun q=>q
  | @list _ us nq hus hnq hs5 hts=>exact go 7 l0 rfl (QS (.a (.b .z)) fun q=>q (GH (by decide)) Gh)
  | @atom _ kq ys nq hkq hys hnq hiq=>
   have h6:kq≠6:=by exact fun e=>g8 ‹_› e (by decide)
   rcases ys with _ | ⟨y,_ | ⟨y2,r⟩⟩
   .rcases hkq with rfl | rfl<;>exact go 7 l0 rfl (QS (.a (.b .z)) fun q=>q (GH (by decide)) Gh)
   .rcases hkq with rfl | rfl
    .exact go 8 (a0 (.inl rfl)) rfl (QS (.a (.b .z)) fun q=>q (GH (by decide)) Gh)
    .exact go 9 (a0 (.inr rfl)) rfl (QS (.a (.b .z)) fun q=>q (GH (by decide)) Gh)
   .have e:((y::y2::r).length:Int)≠1:=by simp only [List.length_cons];exact fun e=>cY e
    rcases hkq with rfl | rfl<;>exact go 7 l0 rfl (QS (.a (.b (.a (.b .z)))) fun q=>q (GH (by decide)) Gh (ZY e))
end
section
variable{Aa:List Int}{d k k' kq w p m m' i j:Nat}{xs ys zs:List TV}{ns nq:Option (List TV)}{a x n val notes:TV}{mo:Option Nat}{st:Bool}{t q u:Aj}{ts:List Aj}{key:El}
theorem Mb(ht:Bf true m t)(hq:Bf st m' q)(hsq:st=true\/∃ts ns,t=.list ts ns)(A3:CO key)(hnum:∀i,key=.num i->i<=80):
  FP Aa (d+11) .A5 [t.v,.n .lst [Bj key],q.v,notes] ((BQ t key q).map Aj.v):=by
 have g:=KY (Aa:=Aa) (d:=d) (notes:=notes) ht hq hsq A3 hnum
 cases t with
 | null=>
  cases hr:BQ .null key q with
  | ok r=>rw[hr]at g;exact QF .z fun q=>q g
  | error r=>rw[hr]at g;exact QF (aa 4 (.b .z)) fun q=>q g
 | atom k xs ns=>
  have hk:Ka k:=by cases ht;assumption
  cases hr:BQ (.atom k xs ns) key q with
  | ok r=>rw[hr]at g;exact QF (.b (.b .z)) fun q=>q (GH (show k≠21 by exact fun e=>g8 ‹_› e (by decide))) (GH (show k≠6 by exact fun e=>g8 ‹_› e (by decide))) Ch g
  | error r=>rw[hr]at g;exact QF (.b (.b (aa 3 (.b .z)))) fun q=>q (GH (show k≠21 by exact fun e=>g8 ‹_› e (by decide))) (GH (show k≠6 by exact fun e=>g8 ‹_› e (by decide))) Ch g
 | list ts ns=>
  cases hr:BQ (.list ts ns) key q with
  | ok r=>rw[hr]at g;exact QF .z fun q=>q Ch g
  | error r=>rw[hr]at g;exact QF (aa 5 (.b .z)) fun q=>q Ch g
theorem R4(ht:Bf true m t)(hq:Bf st m' q)(hsq:st=true\/∃ts ns,t=.list ts ns)(A3:CO key)(hnum:∀i,key=.num i->i<=80):
  FP Aa (d+12) .Ax [t.v,.n .lst [Bj key],q.v,notes] ((BQ t key q).map Aj.v):=by
 have g:=Mb (Aa:=Aa) (d:=d) (notes:=notes) ht hq hsq A3 hnum
 obtain⟨k,x,hk,hkt⟩:=OF key
 rw[hkt]at g ⊢
 cases hr:BQ t key q with
 | ok r=>rw[hr]at g;rcases hk with rfl | rfl<;>exact QF .z fun q=>q (G7 (by decide)) g
 | error r=>rw[hr]at g;rcases hk with rfl | rfl<;>exact QF (aa 6 (.b .z)) fun q=>q (G7 (by decide)) g
noncomputable def MP(t u:Aj)(i j:Nat)(q:Aj):Except Nat Aj:=match u with
 | .null=> .error 36
 | u=>(BQ u (.num j) q).bind (BQ t (.num (i+1)))
theorem R9(ht:Bf true m (.list ts ns))(hi:ts[i]? =some u)(hq:Bf true m' q)(hj:j<=80)(hput:∀r,BQ u (.num j) q=.ok r->∃st n,Bf st n r):
  FP Aa (d+12) .A5 [(Aj.list ts ns).v,.n .lst [Bj (.num (i+1)),Bj (.num j)],q.v,notes] ((MP (.list ts ns) u i j q).map Aj.v):=by
 have hu:∃m,Bf true m u:=by
  cases ht with
  | list _ _ _ h=>exact⟨_,h u (List.mem_of_getElem? hi)⟩
 have hts:ts.length<=8:=by cases ht;assumption
 have hil:i < ts.length:=(EK.mp hi).1
 obtain⟨m2,hu⟩:=hu
 have e1:=Ln (Aa:=Aa) (d:=d+5) (exact:=true) (key:= .num (i+1)) ht trivial
 have he:BY (.list ts ns) (.num (i+1)) true=.ok u:=by
  show Mv (.list ts ns) (.at i)=_
  unfold Mv;dsimp only;rw[hi]
 rw[he]at e1
 have g1:=Mb (Aa:=Aa) (d:=d) (notes:=notes) (key:= .num j) hu hq (.inl rfl) trivial (fun J h=>by cases h;exact hj)
 have nn:u≠.null->MP (.list ts ns) u i j q=(BQ u (.num j) q).bind (BQ (.list ts ns) (.num (i+1)))->FP Aa (d+12) .A5 [(Aj.list ts ns).v,.n .lst [Bj (.num (i+1)),Bj (.num j)],q.v,notes] ((MP (.list ts ns) u i j q).map Aj.v):=fun h0 h2=>by
  obtain⟨k,xs,nu,hv,hk,_⟩:=hu.vec h0
  have hk6:=GH (show k≠6 by exact fun e=>g9 ‹_› e (by decide))
  have e1:Cj Aa (d+11) .AM [(Aj.list ts ns).v,Bj (.num (i+1)),.s (.bool true)] (AD k xs (D1 nu)):=hv▸e1
  rw[hv]at g1
  rw[h2]
  cases hr:BQ u (.num j) q with
  | error r=>rw[hr]at g1;exact QF (aa 6 (.b (.a (.b .z)))) fun q=>q Ch e1 hk6 (BK rfl) g1
  | ok r=>
   rw[hr]at g1
   obtain⟨st,n,Ls⟩:=hput r hr
   have g2:=KY (Aa:=Aa) (d:=d+1) (notes:=notes) (key:= .num (i+1)) (q:=r) ht Ls (.inr ⟨_,_,rfl⟩) trivial (fun J h=>by cases h;exact Nat.le_trans ‹_› (zz ‹_› (by rfl)))
   show FP _ _ _ _ ((BQ (.list ts ns) (.num (i+1)) r).map Aj.v)
   cases hr2:BQ (.list ts ns) (.num (i+1)) r with
   | ok r2=>rw[hr2]at g2;exact QF (aa 6 (.b .z)) fun q=>q Ch e1 hk6 (BK rfl) g1 g2
   | error r2=>rw[hr2]at g2;exact QF (aa 6 (.b (.a (.a (.b .z))))) fun q=>q Ch e1 hk6 (BK rfl) g1 g2
 cases u with
 | null=>exact QF .z fun q=>q Ch e1
 | atom=>exact nn (by intro h;cases h) rfl
 | list=>exact nn (by intro h;cases h) rfl
theorem SG(ht:Bf true m (.list ts ns))(hi:ts[i]? =some u)(hq:Bf true m' q)(hj:j<=80)(hput:∀r,BQ u (.num j) q=.ok r->∃st n,Bf st n r):
  FP Aa (d+13) .Ax [(Aj.list ts ns).v,.n .lst [FO (i+1) j],q.v,notes] ((MP (.list ts ns) u i j q).map Aj.v):=by
 have g:=R9 (Aa:=Aa) (d:=d) (notes:=notes) ht hi hq hj hput
 cases hr:MP (.list ts ns) u i j q with
 | ok r=>rw[hr]at g;exact QF .z fun q=>q Ki Az HX g
 | error r=>rw[hr]at g;exact QF (aa 8 (.b .z)) fun q=>q Ki Az HX g
end
noncomputable def Dr:Aj->Aj
 | .null=> .list [] none
 | .atom k xs ns=> .list (xs.map fun x=> .atom k [x] none) ns
 | t=>t
noncomputable def NW:Aj->List TV
 | .atom _ (_::_) _=>[.s (.w 37)]
 | _=>[]
section
variable{Aa:List Int}{d k k' kq w p m m' i j n':Nat}{xs ys zs:List TV}{ns nq:Option (List TV)}{a x n val notes:TV}{mo:Option Nat}{st st':Bool}{t q u r:Aj}{ts:List Aj}{key:El}
theorem Bf.weak{n:Nat}(h:Bf st n t):Bf false n t:=by
 induction h with
 | null=>exact .null
 | atom hk hx hn hi=>exact .atom hk hx hn ⟨hi.1,fun h=>by cases h⟩
 | list hx hn hs _ ih=>exact .list hx hn (fun h=>by cases h) ih
theorem Bf.le{n m:Nat}(h:Bf st n t):n<=m->Bf st m t:=by
 induction h generalizing m with
 | null=>exact fun J=> .null
 | atom hk hx hn hi=>exact fun J=> .atom hk hx hn hi
 | list hx hn hs _ ih=>
  intro hle
  cases m with
  | zero=>exact absurd hle (Nat.not_succ_le_zero _)
  | succ m=>exact .list hx hn hs fun t h=>ih t h (Nat.le_of_succ_le_succ hle)
theorem KK(h:Bf true m t):Bf true (m+1) (Dr t):=by
 cases h with
 | null=>exact .list (by decide) E1 (fun J=>by decide) (fun t h=>by cases h)
 | atom hk hx hn hi=>
  refine .list (by rw[List.length_map];exact hx) (by rw[List.length_map];exact hn) (fun h=>by rw[List.length_map];exact(hi.2 h).1) fun t h=> ?_
  obtain⟨x,hx,rfl⟩:=List.mem_map.mp h
  exact .atom hk (BK rfl) (fun l e=>by cases e) ⟨by rw[List.all_cons,List.all_eq_true.mp hi.1 x hx];rfl,fun hs=>⟨BK rfl,fun h8 y hy=>by cases hy with | head=>exact(hi.2 hs).2 h8 x hx | tail _ h=>cases h⟩⟩
 | list hx hn hs ht=>exact(Bf.list hx hn hs ht).le (Nat.le_succ _)
theorem P6(ht:Bf true m t)(hq:Bf true m' q)(hk:12<=k/\k < 18):
  TR Aa (d+11) .Bg [.f t.v,.f (.s (.w k)),.f q.v,.r 0] [.lst true []] (match BQ (Dr t) (.nm k) q with | .ok r=> .ok r.v [.lst true (NW t)] | .error e=> .exc e [.lst true (NW t)]):=by
 have g:=KY (Aa:=Aa) (d:=d) (notes:= .u) (key:= .nm k) (KK ht) hq (.inl rfl) hk (fun i h=>by cases h)
 cases ht with
 | null=>
  cases hr:BQ (Dr .null) (.nm k) q with
  | ok r=>rw[hr]at g;exact QF .z fun q=>q Ch Az Cy g
  | error r=>rw[hr]at g;exact QF (aa 5 (.b .z)) fun q=>q Ch Az Cy g
 | @list _ ts ns hx hn hs hts=>
  cases hr:BQ (Dr (.list ts ns)) (.nm k) q with
  | ok r=>rw[hr]at g;exact QF .z fun q=>q Ch Az Cy g
  | error r=>rw[hr]at g;exact QF (aa 5 (.b .z)) fun q=>q Ch Az Cy g
 | @atom _ k' xs ns hk' hx hn hi=>
  have g:FP Aa (d+10) .AC [AD 7 (xs.map fun x=>AD k' [x] (.s .none)) (D1 ns),Bj (.nm k),q.v,.u] ((BQ (Dr (.atom k' xs ns)) (.nm k) q).map Aj.v):=by
   have e:(Dr (.atom k' xs ns)).v=AD 7 (xs.map fun x=>AD k' [x] (.s .none)) (D1 ns):=by
    show AD 7 (Aj.vs _) (D1 ns)=_
    rw[Fu,List.map_map];rfl
   rw[<-e];exact g
  have c:=NG (Aa:=Aa) (d:=d+3) (ns:=ns) (n:= .u) (Cv.list (xs:=xs) hk')
  rcases xs with _ | ⟨x,xs⟩
  .cases hr:BQ (Dr (.atom k' [] ns)) (.nm k) q with
   | ok r=>rw[hr]at g;rcases hk' with rfl | rfl<;>cases ns with
    | none=>exact QF .z fun q=>q Ch Az c Cy g
    | some l=>exact QF .z fun q=>q Ch Az c Cy g
   | error r=>rw[hr]at g;rcases hk' with rfl | rfl<;>cases ns with
    | none=>exact QF (aa 9 (.b .z)) fun q=>q Ch Az c Cy g
    | some l=>exact QF (aa 9 (.b .z)) fun q=>q Ch Az c Cy g
  .have h0:(0:Int) < ((x::xs).length:Int):=by simp only [List.length_cons];exact qG (Nat.succ_pos _)
   cases hr:BQ (Dr (.atom k' (x::xs) ns)) (.nm k) q with
   | ok r=>rw[hr]at g;rcases hk' with rfl | rfl<;>cases ns with
    | none=>exact QF (aa 4 (.b .z)) fun q=>q Ch Az h0 (BK rfl) c Cy g
    | some l=>exact QF (aa 4 (.b .z)) fun q=>q Ch Az h0 (BK rfl) c Cy g
   | error r=>rw[hr]at g;rcases hk' with rfl | rfl<;>cases ns with
    | none=>exact QF (aa 4 (.b (aa 4 (.b .z)))) fun q=>q Ch Az h0 (BK rfl) c Cy g
    | some l=>exact QF (aa 4 (.b (aa 4 (.b .z)))) fun q=>q Ch Az h0 (BK rfl) c Cy g
end
section
variable{Aa:List Int}{d k m i j n:Nat}{xs ys:List TV}{ns:List TV}{a x nv:TV}{st:Bool}{t:Aj}{ts:List Aj}{G G':Nat->Af->Prop}
theorem RK{vs:List V}(h:ns.all Ee=true)(hr:OP G ns vs):OP G' ns vs:=by
 induction ns generalizing vs with
 | nil=>cases hr;exact .nil
 | cons x ns ih=>
  rw[List.all_cons,P8]at h
  cases hr with
  | cons a b=>
   rcases Iy h.1 with rfl | ⟨j,rfl,_⟩
   .cases a;exact .cons .s (ih h.2 b)
   .cases a;exact .cons .s (ih h.2 b)
theorem T5{c:Nat}{u:V}(hl:∀b x,G b x->b≠c->G' b x)(hc:∀x,G c x->x.casesOn (motive:=fun J=>Prop) (fun J=>False) (fun J=>False) (fun J=>True) (fun J=>False) (fun J=>False) (fun J J=>False) False)(h:ns.all Ee=true)(hr:FR G (AD 9 ns (.s .none)) u):FR G' (AD 9 ns (.s .none)) u:=by
 cases hr with
 | n g1 g2 g3=>
  cases g3 with
  | cons a g3=>cases g3 with
   | cons b g3=>cases g3 with
    | cons e g3=>cases g3 with
     | cons f g3=>
      cases g3;cases a;cases e;cases f
      cases b with
      | n h1 h2 h3=>exact .n (hl _ _ g1 fun q=>by subst q;exact hc _ g1) g2 (.cons .s (.cons (.n (hl _ _ h1 fun q=>by subst q;exact hc _ h1) h2 (RK h h3)) (.cons .s (.cons .s .nil))))
theorem Q8{H:MH}{c:Nat}{p:Nat×V}{r:List (Nat×V)}(h:gd H c=some (.dictP (p::r))):H[c]? =some (.dictP (p::r)):=by
 obtain⟨c',e,h⟩:=Jo h
 cases c' with
 | inst k fs=>rcases GI h with h | ⟨h,_⟩<;>cases h
 | dictP kvs=>rw[e];exact congrArg some h
 | _=>cases h
inductive ZT(G:Nat->Af->Prop)(t:TV)(s:Mine.Env):Prop
 | mk (v:V) (v1:Option V) (e:s=[some v,v1]) (h:FR G t v):ZT G t s
theorem WY{G:Nat->Af->Prop}{ρ:List Nat}{t:TV}{e1:Option LV}{s:Mine.Env}(hs:Rs (OV (AF G ρ)) [some (.f t),e1] s):ZT G t s:=by
 cases hs with
 | cons hv hs=>cases hs with
  | cons _ hs=>
   cases hs
   cases hv with
   | so hv=>exact⟨_,_,rfl,hv⟩
inductive Z8(G:Nat->Af->Prop)(k:Nat)(ns:List TV)(v:V):Prop
 | mk (a c:Nat) (b u:V) (e:v=.ref a) (g:G a (Nd.cell (.ins .vector [0,1,2,4]) [.w k,b,.ref c,.bool false])) (y:G c (.dictW [(5,u)])) (z:FR G (AD 9 ns (.s .none)) u):Z8 G k ns v
theorem U2{G:Nat->Af->Prop}{k:Nat}{xs ns:List TV}{v:V}(h:FR G (AD k xs (D1 (some ns))) v):Z8 G k ns v:=by
 cases h with
 | n g1 _ g3=>
  cases g3 with
  | cons x1 g3=>cases g3 with
   | cons _ g3=>cases g3 with
    | cons x3 g3=>cases g3 with
     | cons x4 g3=>
      cases g3;cases x1;cases x4
      cases x3 with
      | n y1 _ y3=>cases y3 with
       | cons z1 z2=>cases z2;exact⟨_,_,_,_,rfl,g1,y1,z1⟩
theorem Mp{env:AA}{L:List LC}{e1:Option LV}(he:env=[some (.f (AD k xs (D1 (some ns)))),e1])(Dn:ns.all Ee=true)(hcall:Cj Aa d .AE [AD 9 ns (.s .none)] nv):
  TE Aa d (.dcomp (.call .AE [.idx (.attr (.O 0) 2) (.O 2)]) (.attr (.O 0) 2)) env L (.ok (.f (.n (.dct [5]) [nv])) L):=fun F w s r hs=>by
 subst he
 obtain⟨v,v1,rfl,hv⟩:=WY hs
 obtain⟨a,c,b1,u,rfl,g1,y1,z1⟩:=U2 hv
 have hc:w.H[c]? =some (.dictW [(5,u)]):=DF y1.2
 have lc:=(EK.mp hc).1
 obtain⟨fs,ha,hq,_⟩:=HZ (c:= .vector) g1.2
 have hac:a≠c:=fun q=>by rw[q,hc]at ha;cases ha
 have at2:∀H:MH,H[a]? =some (.inst .vector fs)->∀s':Mine.Env,s'[0]? =some (some (.ref a))->Ac (CS Aa d) (.attr (.O 0) 2) s' H=.ok (.ref c) H:=fun H h s' h0=>
  (Av (Bs (x:=V.ref a) (by rw[h0];rfl))).trans (Ap h (Bs (((EI 2 fs).trans (DG (by decide) fs).symm).trans (by rw[<-hq];rfl))))
 let H2:MH:=w.H.set c (.dictP [(5,u)])++[.dictW []]
 have l2:H2.length=w.H.length+1:=by rw[C2,List.length_set];rfl
 have o2:∀b,b < w.H.length->b≠c->H2[b]? =w.H[b]? :=fun b hb hn=>by rw[Mg (by rw[List.length_set];exact hb),Iu (Ne.symm hn)]
 have c2:H2[c]? =some (.dictP [(5,u)]):=by rw[Mg (by rw[List.length_set];exact lc),GS lc]
 have d2:H2[w.H.length]? =some (.dictW []):=by rw[List.getElem?_append_right (by rw[List.length_set];exact Nat.le_refl _),List.length_set,Nat.sub_self];rfl
 have la:=(EK.mp ha).1
 let F2:Fm:=⟨fun b=>Sx F L w b\/b=c\/b=w.H.length,H2⟩
 have tab2:gd H2 0=some .tab:=by
  have t:=r.tab
  unfold gd at t ⊢
  rw[o2 0 (Fc r.tab) fun q=>by rw[q,hc]at t;cases t];exact t
 have sF2:∀b,F2.S b->b < H2.length:=fun b s=>by
  rw[l2]
  rcases s with s | rfl | rfl
  .exact Nat.lt_succ_of_lt (s.elim (fun s=>Nat.lt_of_lt_of_le (r.sF b s) r.le) fun⟨i,c,e,_⟩=>r.lt i b e)
  .exact Nat.lt_succ_of_lt lc
  .exact Nat.lt_succ_self _
 have r2:Rl F2 [] ⟨[],H2⟩:={ tab:=tab2,t0:=fun i h=>(by cases i<;>cases h),nd:=fun i j a h=>(by cases i<;>cases h),len:=rfl,lt:=fun i a h=>(by cases i<;>cases h),sF:=sF2,le:=Nat.le_refl _,old:=fun a J J=>rfl,own:=fun i a c h=>(by cases i<;>cases h),cells:=fun i a c h=>(by cases i<;>cases h)}
 have hu:FR (Gz F2 [] ⟨[],H2⟩) (AD 9 ns (.s .none)) u:=T5 (c:=c) (fun b x h hb=>⟨fun s=>s.elim (fun s=>s.elim h.1 fun s=>s.elim hb fun s=>absurd (Fc h.2) (by rw[s];exact Nat.lt_irrefl _)) fun⟨i,c,e,_⟩=>(by cases i<;>cases e),(by have:=h.2;unfold gd at this ⊢;rw[o2 b (Fc h.2) hb];exact this)⟩) (fun x h=>by rw[y1.2.symm.trans h.2 |> Option.some.inj |>.symm];trivial) Dn z1
 obtain⟨y,w3,e3,n3,q3⟩:=hcall F2 ⟨[],H2⟩ [u] r2 (.cons hu .nil)
 have o3:∀b,b < H2.length->gd w3.H b=gd H2 b:=fun b hb=>n3.r.old b hb fun i=>OG n3.r i b
 have c3:w3.H[c]? =some (.dictP [(5,u)]):=Q8 ((o3 _ (by rw[l2];exact Nat.lt_succ_of_lt lc)).trans (by unfold gd;rw[c2];rfl))
 have d3:w3.H[w.H.length]? =some (.dictW []):=DF ((o3 _ (by rw[l2];exact Nat.lt_succ_self _)).trans (by unfold gd;rw[d2];rfl))
 have l3:H2.length<=w3.H.length:=n3.r.le
 have dc:w.H.length≠c:=fun q=>absurd lc (by rw[q];exact Nat.lt_irrefl _)
 let H5:MH:=(w3.H.set w.H.length (.dictW [(5,y)])).set c (.dictW [(5,u)])
 have o5:∀b,b≠c->b≠w.H.length->gd H5 b=gd w3.H b:=fun b h1 h2=>(Fd h1).trans (Fd h2)
 have l5:H5.length=w3.H.length:=by rw[List.length_set,List.length_set]
 have k5:Nx F L w L ⟨w.ρ,H5⟩:=Ii r (by rw[l5];rw[l2]at l3;exact Nat.le_of_succ_le l3) fun b hb=>by
  by_cases h:b=c
  .subst h
   rw[EW (by rw[List.length_set];rw[l2]at l3;exact Nat.lt_of_lt_of_le (Nat.lt_succ_of_lt lc) l3)]
   exact y1.2.symm
  .rw [o5 b h (Nat.ne_of_lt hb),o3 b (by rw[l2];exact Nat.lt_succ_of_lt hb)]
   unfold gd;rw[o2 b hb h]
 refine⟨.ref w.H.length,⟨w.ρ,H5⟩,?_,k5,?_⟩
 .have ev:Ac (CS Aa d) (.call .AE [.idx (.attr (.O 0) 2) (.O 2)]) [some (.ref a),v1,some (.w 5)] H2=.ok y w3.H:=by
   have e5:Ac (CS Aa d) (.idx (.attr (.O 0) 2) (.O 2)) [some (.ref a),v1,some (.w 5)] H2=.ok u H2:=(Av (at2 H2 ((o2 a la hac).trans ha) _ rfl)).trans ((Av (m:=Ac (CS Aa d) (.O 2) [some (.ref a),v1,some (.w 5)]) (a:=V.w 5) rfl).trans (Ap c2 rfl))
   exact(Av (m:=Et (CS Aa d) [.idx (.attr (.O 0) 2) (.O 2)] [some (.ref a),v1,some (.w 5)]) (a:=[u]) ((Av e5).trans rfl)).trans e3
  have s5:Dk (.ref w.H.length) (.w 5) y w3.H=.ok () (w3.H.set w.H.length (.dictW [(5,y)])):=Ap d3 rfl
  have st5:stays (.ref c) (.dictP [(5,u)]) (w3.H.set w.H.length (.dictW [(5,y)]))=.ok () _:=Ji ((Iu dc).trans c3)
  have ea:Bx (fun x=>bnd (Ac (CS Aa d) (.call .AE [.idx (.attr (.O 0) 2) (.O 2)]) [some (.ref a),v1,some x]) fun y=>bnd (Dk (.ref w.H.length) x y) fun J=>ret (none:Option V)) (stays (.ref c) (.dictP [(5,u)])) [.w 5] H2=.ok [] (w3.H.set w.H.length (.dictW [(5,y)])):=
   (Av ((Av ev).trans ((Av s5).trans rfl))).trans ((Av st5).trans rfl)
  refine(Av (at2 w.H ha [some (.ref a),v1] rfl)).trans ((Av (m:=getD (.ref c)) (a:=[(5,u)]) (Ap hc rfl)).trans (Ie ((Av (m:=alloc (.dictW [])) (a:=V.ref w.H.length) (H':=H2) (by show R.ok (V.ref (w.H.set c (.dictP [(5,u)])).length) H2=_;rw[List.length_set])).trans ((Av (IT ea)).trans (Ie rfl)))))
 .have q3':FR (Gz F2 [] w3) nv y:=q3
  have la5:w.H.length < w3.H.length:=by rw[l2]at l3;exact l3
  refine .n (k:= .dct [5]) (vs:=[y]) ⟨fun s=>s.elim (fun s=>absurd (r.sF _ s) (Nat.not_lt.mpr r.le)) fun⟨i,c,e,_⟩=>absurd (r.lt i _ e) (Nat.lt_irrefl _),?_⟩ (BK rfl) (.cons (FR.mono (fun b x h=> ?_) q3') .nil)
  .show gd H5 w.H.length=_
   rw[Fd dc,EW la5];rfl
  .have h1:=h.1
   exact⟨fun s=>h1 (.inl (.inl s)),(o5 b (fun q=>h1 (.inl (.inr (.inl q)))) (fun q=>h1 (.inl (.inr (.inr q))))).trans h.2⟩
end
section
variable{Aa:List Int}{d k k' kq m i j n p:Nat}{xs ys:List TV}{ns:Option (List TV)}{a x nv:TV}{st:Bool}{t q:Aj}{ts:List Aj}{key:El}{exact:Bool}
theorem Gm{m:Mine.Env->M (Option V)}{env:AA}{n:Nat}{L L':List LC}{ys:List TV}(h:Fs m env (Ja 0 n) L ys L'):Fs m env (DX 0 (n:Int)) L ys L':=LO▸h
theorem Mm{m:Mine.Env->M (Option V)}{env:AA}{L:List LC}:∀{ts:List Aj},(∀t ∈ ts,Sm RV RO m (env++[some (.f t.v)]) L (.ok (some t.w) L))->Fs m env (Aj.vs ts) L (Aj.ws ts) L
 | [],_=> .nil
 | t::ts,h=> .cons (o:=some t.w) (h t (.head _)) (Mm fun t ht=>h t (.tail _ ht))
theorem GP{l:List TV}:Cj Aa (d+2) .AE [AD 9 l (.s .none)] (.n .tup [.s (.w 9),.n .lst l,.n (.dct []) []]):=QF .z fun q=>q
theorem Hf:∀(n:Nat) {t:Aj},Bf st n t->Cj Aa (d+n+3) .AE [t.v] t.w:=by
 have at0:∀(d:Nat) {k:Nat} {xs:List TV} {ns:Option (List TV)},Ka k->xs.length<=8->M0 ns xs.length->Cj Aa (d+3) .AE [AD k xs (D1 ns)] (.n .tup [.s (.w k),.n .lst xs,Ev ns]):=fun d {k xs ns} hk hx hn=>by
  cases ns with
  | none=>rcases hk with rfl | rfl<;>exact QF .z fun q=>q
  | some l=>rcases hk with rfl | rfl<;>exact QF .z fun q=>q (Mp rfl (hn l rfl).1 GP)
 intro n
 induction n with
 | zero=>
  intro t ht
  cases ht with
  | null=>exact QF .z fun q=>q
  | atom hk hx hn hi=>exact at0 d hk hx hn
 | succ n ih=>
  intro t ht
  cases ht with
  | null=>exact QF .z fun q=>q
  | atom hk hx hn hi=>exact at0 (d+(n+1)) hk hx hn
  | @list _ ts ns hx hn hs hts=>
   have g:∀{e1},Fs (Wz Aa (d+n+3) (.call .AE [.O 2])) [some (.f (Aj.list ts ns).v),e1] (Aj.vs ts) [.dct []] (Aj.ws ts) [.dct []]:=Mm fun t h=>QM .z fun q=>q (ih (hts t h))
   cases ns with
   | none=>exact QF .z fun q=>q g
   | some l=>exact QF .z fun q=>q (Mp rfl (hn l rfl).1 GP) g
theorem Gp:Cj Aa (d+1) .Bp [t.w] (R6 t.names):=by
 cases t with
 | null=>exact QF .z fun q=>q
 | atom k xs ns=>cases ns<;>exact QF .z fun q=>q
 | list ts ns=>cases ns<;>exact QF .z fun q=>q
noncomputable def YY:El->V
 | .na=> .w 10
 | .num i=> .int (i:Int)
 | .nm k=> .w k
noncomputable abbrev Ca(key:El):TV:= .s (YY key)
theorem QU{key:El}(h:CO key)(hn:key≠.na):YB (YY key) (.w 10)=some false:=by
 cases key with
 | na=>exact absurd rfl hn
 | num i=>rfl
 | nm k=>exact GH (show k≠10 by have:=h.1;exact fun e=>qV ‹_› e (by rfl))
noncomputable def O1(ns:Option (List TV))(exact:Bool)(key:El):TV:=match AP ns exact key with
 | .ok pl=>pl.t
 | .error e=> .s (.w e)
noncomputable abbrev iA:ME Fn:= .and2 (.isNone true (.idx (.O 3) (.O 5))) (.starts (.idx (.O 3) (.O 5)) (.O 1))
theorem Wm{l:List TV}{e0 e2 e4:Option LV}(hk:12<=k/\k < 18)(ha:l.all Ee=true):∀(xs done:List TV),l=done++xs->Fs (bF Aa d (.O 5) iA) [e0,some (sv (.w k)),e2,some (.f (.n .lst l)),e4] (Ja done.length xs.length) [] ((Qi k xs done.length).map fun(i:Nat)=> .s (.int (i:Int))) []
 | [],done,_=> .nil
 | x::xs,done,e=>by
  have hx:l[done.length]? =some x:=by rw[e,List.getElem?_append_right (Nat.le_refl _),Nat.sub_self];rfl
  have hm:Ee x=true:=List.all_eq_true.mp ha x (List.mem_of_getElem? hx)
  have go:=Wm (e0:=e0) (e2:=e2) (e4:=e4) hk ha xs (done++[x]) (by rw[e,List.append_assoc];rfl)
  rw[C2]at go
  unfold Qi
  by_cases hb:bD k x=true
  .rw [if_pos hb]
   rcases Iy hm with rfl | ⟨j,rfl,hj⟩
   .cases hb
   .exact .cons (o:=some (.s (.int (done.length:Int)))) (QI (.b (.a (.b (.b .z)))) fun q=>q hx hx ((Ig hj hk).trans (congrArg some hb))) go
  .rw [if_neg hb]
   refine .cons (o:=none) ?_ go
   rcases Iy hm with rfl | ⟨j,rfl,hj⟩
   .exact QI (.b .z) fun q=>q hx
   .exact QI (.b (.a (.b (.b .z)))) fun q=>q hx hx ((Ig hj hk).trans (congrArg some (show KW.contains (j,k)=false from Bool.eq_false_iff.mpr hb)))
theorem KL(A3:CO key)(hn:key≠.na)(h:FM t.names):Cj Aa (d+2) .BX [t.w,Ca key,.s (.bool exact)] (O1 t.names exact key):=by
 cases key with
 | na=>exact absurd rfl hn
 | num i=>
  cases i with
  | zero=>exact QF .z fun q=>q
  | succ i=>
   have e:((i+1:Nat):Int) - 1=(i:Int):=by exact qL
   have g:Cj Aa (d+2) .BX [t.w,.s (.int ((i+1:Nat):Int)),.s (.bool exact)] (.s (.int (((i+1:Nat):Int) - 1))):=QF (.b .z) fun q=>q (ZY (by exact fun e=>qN e))
   rw[e]at g
   exact g
 | nm k=>
  have n0:=Gp (Aa:=Aa) (d:=d) (t:=t)
  show Cj Aa (d+2) _ _ (E4 t.names k exact).t
  generalize t.names=ns at n0 h
  cases ns with
  | none=>
   by_cases h16:k=16
   .subst h16;exact QF .z fun q=>q n0
   .exact QF (.a (.b .z)) fun q=>q n0 (GH h16)
  | some l=>
   obtain⟨h1,h2⟩:=h l rfl
   by_cases h16:k=16
   .subst h16;exact QF .z fun q=>q n0
   .cases hx:l.findIdx? (DM k)with
    | some i=>
     rw[G0 h16 hx]
     have ha:l.any (DM k)=true:=by
      obtain⟨hl,hp,_⟩:=List.findIdx?_eq_some_iff_getElem.mp hx
      exact List.any_eq_true.mpr ⟨_,List.getElem_mem hl,hp⟩
     exact QF (.a (.b (.a (.b (.b .z))))) fun q=>q n0 (GH h16) (Ho h1) ha (Ho h1) hx
    | none=>
     rw[GQ h16 hx]
     have ha:l.any (DM k)=false:=by
      rw[List.findIdx?_eq_none_iff]at hx
      exact List.any_eq_false.mpr fun x hm=>by rw[hx x hm];decide
     have g:=Wm (Aa:=Aa) (d:=d+1) (k:=k) (l:=l) (e0:=some (.f t.w)) (e2:=some (bl exact)) (e4:=none) A3 h1 l [] rfl
     cases exact with
     | true=>exact QF (.a (.b (.a (.c .z)))) fun q=>q n0 (GH h16) (Ho h1) ha rfl (by exact zz ‹_› (by rfl)) (Gm g)
     | false=>
      show Cj Aa (d+2) _ _ (only (Qi k l 0)).t
      change Fs _ _ _ _ ((Qi k l 0).map _) _ at g
      rcases hb:Qi k l 0 with _ | ⟨j,_ | ⟨j2,r⟩⟩<;>rw[hb]at g
      .exact QF (.a (.b (.a (.c .z)))) fun q=>q n0 (GH h16) (Ho h1) ha rfl (by exact zz ‹_› (by rfl)) (Gm g)
      .exact QF (.a (.b (.a (.c .z)))) fun q=>q n0 (GH h16) (Ho h1) ha rfl (by exact zz ‹_› (by rfl)) (Gm g)
      .exact QF (.a (.b (.a (.c (.b .z))))) fun q=>q n0 (GH h16) (Ho h1) ha rfl (by exact zz ‹_› (by rfl)) (Gm g) (ZY (by simp only [List.length_map,List.length_cons];exact fun e=>cY e))
end
noncomputable def Ij:Except Nat Aj->TV
 | .ok r=>r.w
 | .error e=> .n .lst [.s (.w 11),.s (.w e)]
section
variable{Aa:List Int}{d k k' kq m i j n p:Nat}{xs ys:List TV}{ns:Option (List TV)}{a x nv:TV}{st:Bool}{t q:Aj}{ts:List Aj}{key:El}{exact:Bool}
theorem T4{j:Nat}(h:E4 ns j exact=.na):False:=by
 unfold E4 at h
 split at h
 .cases h
 .split at h
  .cases h
  .split at h
   .cases h
   .split at h
    .cases h
    .unfold only at h;split at h<;>cases h
theorem Fe(hn:key≠.na):AP ns exact key≠.ok .na:=fun h=>by
 cases key with
 | na=>exact hn rfl
 | num i=>cases i<;>cases h
 | nm j=>exact T4 (Except.ok.inj h)
theorem Ku(ht:Bf st m t)(A3:CO key):Cj Aa (d+3) .A7 [t.w,Ca key,.s (.bool exact)] (Ij (BY t key exact)):=by
 have nml:FM t.names:=by
  cases ht with
  | null=>exact fun J h=>by cases h
  | atom _ hx hn=>exact hn.ok hx
  | list hx hn=>exact hn.ok hx
 by_cases hna:key=.na
 .subst hna
  cases ht with
  | null=>exact QF .z fun q=>q
  | atom hk=>rcases hk with rfl | rfl<;>exact QF .z fun q=>q
  | list=>exact QF .z fun q=>q
 .have s0:=KL (Aa:=Aa) (d:=d) (t:=t) (exact:=exact) A3 hna nml
  have k0:=QU A3 hna
  unfold O1 at s0
  cases ht with
  | null=>exact QF .z fun q=>q
  | @atom _ k xs ns hk hx hn hi=>
   show Cj _ _ _ _ (Ij ((AP ns exact key).bind (Mv (.atom k xs ns))))
   have s0:Cj Aa (d+2) .BX [(Aj.atom k xs ns).w,Ca key,.s (.bool exact)] (match AP ns exact key with | .ok pl=>pl.t | .error e=> .s (.w e)):=s0
   cases hp:AP ns exact key with
   | error e=>rw[hp]at s0;exact QF (.a (.b .z)) fun q=>q k0 s0
   | ok pl=>
    rw[hp]at s0
    cases pl with
    | na=>exact absurd hp (Fe hna)
    | no=>rcases hk with rfl | rfl<;>exact QF (.a (.b .z)) fun q=>q k0 s0
    | «at» i=>
     have h0:¬((i:Nat):Int) < 0:=Int.not_lt.mpr (Int.natCast_nonneg i)
     show Cj _ _ _ _ (Ij (match xs[i]? with | none=> .error 28 | some x=> .ok (.atom k [x] none)))
     cases hx:xs[i]? with
     | none=>
      have h1:(xs.length:Int)<=(i:Int):=Int.ofNat_le.mpr (List.getElem?_eq_none_iff.mp hx)
      exact QF (.a (.b (.a (.c (.c (.b .z)))))) fun q=>q k0 s0 h0 h0 h1
     | some x=>
      have h1:¬(xs.length:Int)<=(i:Int):=fun q=>absurd (EK.mp hx).1 (Nat.not_lt.mpr (Int.ofNat_le.mp q))
      rcases hk with rfl | rfl<;>exact QF (.a (.b (.a (.c (.c (.c (.a (.b .z)))))))) fun q=>q k0 s0 h0 h0 h1 hx
  | @list _ ts ns hx hn hs hts=>
   show Cj _ _ _ _ (Ij ((AP ns exact key).bind (Mv (.list ts ns))))
   have s0:Cj Aa (d+2) .BX [(Aj.list ts ns).w,Ca key,.s (.bool exact)] (match AP ns exact key with | .ok pl=>pl.t | .error e=> .s (.w e)):=s0
   cases hp:AP ns exact key with
   | error e=>rw[hp]at s0;exact QF (.a (.b .z)) fun q=>q k0 s0
   | ok pl=>
    rw[hp]at s0
    cases pl with
    | na=>exact absurd hp (Fe hna)
    | no=>exact QF (.a (.b .z)) fun q=>q k0 s0
    | «at» i=>
     have h0:¬((i:Nat):Int) < 0:=Int.not_lt.mpr (Int.natCast_nonneg i)
     show Cj _ _ _ _ (Ij (match ts[i]? with | none=> .error 28 | some x=> .ok x))
     have hw:(Aj.ws ts)[i]? =ts[i]?.map Aj.w:=by rw[Ea,List.getElem?_map]
     cases hx:ts[i]? with
     | none=>
      have h1:((Aj.ws ts).length:Int)<=(i:Int):=by rw[Ea,List.length_map];exact Int.ofNat_le.mpr (List.getElem?_eq_none_iff.mp hx)
      exact QF (.a (.b (.a (.c (.c (.b .z)))))) fun q=>q k0 s0 h0 h0 h1
     | some x=>
      have h1:¬((Aj.ws ts).length:Int)<=(i:Int):=by rw[Ea,List.length_map];exact fun q=>absurd (EK.mp hx).1 (Nat.not_lt.mpr (Int.ofNat_le.mp q))
      rw[hx]at hw
      exact QF (.a (.b (.a (.c (.c (.c (.a (.b .z)))))))) fun q=>q k0 s0 h0 h0 h1 hw
theorem Ot(hx:xs.length<=8):Cj Aa (d+1) .Bq [(Aj.atom k xs ns).w] (Dr (.atom k xs ns)).w:=by
 have g:∀{env:AA},Fs (Wz Aa d (.tup [.O 1,.lst [.O 4],.dct0])) [some (.f (Aj.atom k xs ns).w),some (sv (.w k)),some (.f (.n .lst xs)),some (.f (Ev ns))] xs [] (xs.map fun x=> .n .tup [.s (.w k),.n .lst [x],.n (.dct []) []]) []:=fun {env}=>Fo fun x J=>QM .z fun q=>q
 have e:(Dr (.atom k xs ns)).w=.n .tup [.s (.w 7),.n .lst (xs.map fun x=> .n .tup [.s (.w k),.n .lst [x],.n (.dct []) []]),Ev ns]:=by
  show TV.n .tup [_,.n .lst (Aj.ws _),_]=_
  rw[Ea,List.map_map];rfl
 rw[e]
 exact QF .z fun q=>q (g (env:=[]))
theorem Q0(A3:CO key):Cj Aa (d+2) .Cn [Ca key] (Bj key):=by
 cases key with
 | na=>exact QF .z fun q=>q
 | num i=>exact QF .z fun q=>q
 | nm k=>exact QF (.b .z) fun q=>q (GH (show k≠10 by have:=A3.1;exact fun e=>qV ‹_› e (by rfl)))
theorem Bc{e:Nat}:Cj Aa (d+1) .AV [.s (.w e)] (.n .lst [.s (.w 11),.s (.w e)]):=QF .z fun q=>q
theorem Dg{n:Nat}(ht:Bf st n t):Cj Aa (d+n+4) .AV [t.v] t.w:=by
 have g:=Hf (Aa:=Aa) (d:=d) n ht
 cases t<;>exact QF .z fun q=>q g
noncomputable abbrev CB(r:List Int):List LC:=[.lst true (r.map fun i=> .s (.int i))]
theorem Vx:TR Aa (d+1) .Ao [.r 0] (CB []) (.ok (.s (.int 0)) (CB [])):=QF .z fun q=>q
theorem Sl{r:List Int}:(r.map fun i=>TV.s (.int i)).all XK=true:=by
 induction r with
 | nil=>rfl
 | cons x r ih=>exact ih
theorem TB{r:List Int}{i:Int}:TR Aa (d+1) .Ao [.r 0] (CB (r++[i])) (.ok (.s (.int i)) (CB r)):=
 QF (.c .z) fun q=>q (by rw[List.map_append];exact List.append_ne_nil_of_right_ne_nil _ (by intro h;cases h)) (List.map_append ..) Sl
end
section
variable{Aa:List Int}{d k m n:Nat}{xs ys:List TV}{ns:Option (List TV)}{a x:TV}{r:List Int}
noncomputable def Mk(Aa:List Int)(d:Nat)(f:Fn)(args:List LV)(P:TV->Prop):Prop:=∀r,∃t r',P t/\TR Aa d f args (CB r) (.ok t (CB r'))
theorem YH:Mk Aa (d+1) .Ao [.r 0] fun t=>∃i:Int,t=.s (.int i):=fun r=>by
 rcases List.eq_nil_or_concat r with rfl | ⟨s,i,rfl⟩
 .exact ⟨_,[],⟨0,rfl⟩,Vx⟩
 .exact ⟨_,s,⟨i,rfl⟩,List.concat_eq_append ..▸TB⟩
theorem Bi(k:Nat)(hk:0 < k)(r:List Int):∃(i:Int) (j:Nat) (r':List Int),j < k/\i % (k:Int)=(j:Int)/\TR Aa (d+1) .Ao [.r 0] (CB r) (.ok (.s (.int i)) (CB r')):=by
 obtain⟨t,r',⟨i,rfl⟩,h⟩:=YH (Aa:=Aa) (d:=d) r
 have h0:0<=i % (k:Int):=Int.emod_nonneg _ (by exact fun e=>qM ‹_› e)
 have h1:i % (k:Int) < (k:Int):=Int.emod_lt_of_pos _ (by exact qG ‹_›)
 exact⟨i,(i % (k:Int)).toNat,r',by exact(Int.toNat_lt ‹_›).mpr ‹_›,by exact(Int.toNat_of_nonneg ‹_›).symm,h⟩
theorem DY{m:Mine.Env->M (Option V)}{env:AA}{P:TV->Prop}{M:List LC}(h:∀x r,∃y r',P y/\Sm RV RO m (env++[some (.f x)]) (CB r++M) (.ok (some y) (CB r'++M))):∀(xs:List TV) (r:List Int),∃ys r',ys.length=xs.length/\(∀y ∈ ys,P y)/\Fs m env xs (CB r++M) ys (CB r'++M)
 | [],r=>⟨[],r,rfl,fun y h=>(by cases h),.nil⟩
 | x::xs,r=>by
  obtain⟨y,r1,p,g⟩:=h x r
  obtain⟨ys,r2,e,p2,g2⟩:=DY h xs r1
  exact⟨y::ys,r2,congrArg (·+1) e,fun z hz=>(by cases hz with | head=>exact p | tail _ h=>exact p2 z h),.cons (o:=some y) g g2⟩
theorem KF{n:Nat}(hn:n<=100):Mk Aa (d+2) .BO [.r 0,.f (.s (.int (n:Int)))] fun t=>∃l,t=.n .lst l/\l.length=n/\l.all Ee=true:=fun r=>by
 have el:∀(x:TV) (r:List Int),∃y r',Ee y=true/\TM Aa (d+1) (.idx (.lst [.cst (.w 12),.cst (.w 13),.cst (.w 14),.cst (.w 16),.cst .none,.cst (.w 15)]) (.bin .mod (.call .Ao [.O 0]) (.cst (.int 6)))) ([some (.r 0),some (sv (.int (n:Int)))]++[some (.f x)]) (CB r++[]) (.ok (some y) (CB r'++[])):=fun x r=>by
  obtain⟨i,j,r',hj,hm,g⟩:=Bi (Aa:=Aa) (d:=d) 6 (by decide) r
  rcases(hO hj)with rfl | rfl | rfl | rfl | rfl | rfl
  .exact ⟨.s (.w 12),r',rfl,QM .z fun q=>q g (by decide) hm⟩
  .exact ⟨.s (.w 13),r',rfl,QM .z fun q=>q g (by decide) hm⟩
  .exact ⟨.s (.w 14),r',rfl,QM .z fun q=>q g (by decide) hm⟩
  .exact ⟨.s (.w 16),r',rfl,QM .z fun q=>q g (by decide) hm⟩
  .exact ⟨.s .none,r',rfl,QM .z fun q=>q g (by decide) hm⟩
  .exact ⟨.s (.w 15),r',rfl,QM .z fun q=>q g (by decide) hm⟩
 obtain⟨ys,r',e,p,g⟩:=DY el (DX 0 (n:Int)) r
 rw[List.length_map,EY]at e
 exact⟨.n .lst ys,r',⟨ys,rfl,e,List.all_eq_true.mpr p⟩,QF .z fun q=>q rfl (by exact zz ‹_› (by rfl)) g⟩
end
section
variable{Aa:List Int}{d k m n:Nat}{xs ys:List TV}{ns:Option (List TV)}{a x:TV}{r:List Int}
noncomputable abbrev Wo:ME Fn:= .idx (.lst [.bin .mod (.call .Ao [.O 0]) (.cst (.int 50)),.cst (.w 18)]) (.O 2)
theorem ZB{env:List (Option LV)}{M:List LC}(hM:M=[.lst false [.s (.w 8),.s (.w 9)]]){e1 e3 e4 e5:Option LV}(he:env=[some (.r 0),e1,some (il ((0:Nat):Int)),e3,e4,e5])(x:TV)(r:List Int):∃y r',(∃i:Int,y=.s (.int i)/\0<=i/\i<=100000)/\TM Aa (d+1) Wo (env++[some (.f x)]) (CB r++M) (.ok (some y) (CB r'++M)):=by
 subst hM;subst he
 obtain⟨i,j,r',hj,hm,g⟩:=Bi (Aa:=Aa) (d:=d) 50 (by decide) r
 exact⟨.s (.int (j:Int)),r',⟨_,rfl,fY hj (by decide)⟩,QM .z fun q=>q g (by decide) hm⟩
theorem aL{env:List (Option LV)}{M:List LC}(hM:M=[.lst false [.s (.w 8),.s (.w 9)]]){e1 e3 e4 e5:Option LV}(he:env=[some (.r 0),e1,some (il ((1:Nat):Int)),e3,e4,e5])(x:TV)(r:List Int):∃y r',y=.s (.w 18)/\TM Aa (d+1) Wo (env++[some (.f x)]) (CB r++M) (.ok (some y) (CB r'++M)):=by
 subst hM;subst he
 obtain⟨i,j,r',hj,hm,g⟩:=Bi (Aa:=Aa) (d:=d) 50 (by decide) r
 exact⟨_,r',rfl,QM .z fun q=>q g (by decide) hm⟩
noncomputable abbrev FU(n:Nat)(x:TV):Prop:=∃t,x=Aj.v t/\Bf true n t
theorem Km{l:List TV}{n:Nat}(h1:l.length=n)(h2:l.all Ee=true):M0 (some l) n:=fun J e=>by cases e;exact⟨h2,h1⟩
theorem H7{n:Nat}:M0 none n:=fun J e=>by cases e
theorem J7{n kk:Nat}(hn:n<=1)(hk:kk<=1){i:Int}{r r1:List Int}(hm:i % (if 0 < n then 5 else 3)=(kk:Int))(g:TR Aa (d+4) .Ao [.r 0] (CB r) (.ok (.s (.int i)) (CB r1))):∃x r',FU n x/\TR Aa (d+5) .AX [.r 0,.f (.s (.int (n:Int)))] (CB r) (.ok x (CB r')):=by
 obtain⟨i2,c,r2,hc,hm2,g2⟩:=Bi (Aa:=Aa) (d:=d+3) 3 (by decide) r1
 have ec:1+(c:Int)=((1+c:Nat):Int):=by rfl
 have c3:1+c<=1000:=by exact Uf ‹_› (by rfl)
 have fin:∀{k:Nat} {ys:List TV} {r3:List Int},Ka k->ys.length=1+c->ys.all (fun x=>x.casesOn Vp (fun J J=>false) false)=true->(k=8->∀x ∈ ys,∃i:Int,x=.s (.int i)/\0<=i/\i<=100000)->
   (∀{i3:Int} {r4:List Int},TR Aa (d+4) .Ao [.r 0] (CB r3) (.ok (.s (.int i3)) (CB r4))->(i3 % 2=((0:Nat):Int)->TR Aa (d+5) .AX [.r 0,.f (.s (.int (n:Int)))] (CB r) (.ok (AD k ys (.s .none)) (CB r4)))/\(i3 % 2=((1:Nat):Int)->∀{l r5},TR Aa (d+4) .BO [.r 0,.f (.s (.int (ys.length:Int)))] (CB r4) (.ok (.n .lst l) (CB r5))->TR Aa (d+5) .AX [.r 0,.f (.s (.int (n:Int)))] (CB r) (.ok (AD k ys (D1 (some l))) (CB r5))))->∃x r',FU n x/\TR Aa (d+5) .AX [.r 0,.f (.s (.int (n:Int)))] (CB r) (.ok x (CB r')):=fun {k ys r3} hk hy hp hi h=>by
  obtain⟨i3,b,r4,hb,hm3,g3⟩:=Bi (Aa:=Aa) (d:=d+3) 2 (by decide) r3
  have y8:ys.length<=8:=by exact bY ‹_› ‹_› (by rfl)
  have y4:ys.length<=4:=by exact bY ‹_› ‹_› (by rfl)
  rcases(Qk hb)with rfl | rfl
  .exact ⟨_,_,⟨.atom k ys none,rfl,.atom hk y8 H7 ⟨hp,fun J=>⟨y4,hi⟩⟩⟩,(h g3).1 hm3⟩
  .obtain ⟨_,r5,⟨l,rfl,hl,hla⟩,g4⟩:=KF (Aa:=Aa) (d:=d+2) (n:=ys.length) (by exact zz ‹_› (by rfl)) r4
   exact⟨_,_,⟨.atom k ys (some l),rfl,.atom hk y8 (Km hl hla) ⟨hp,fun J=>⟨y4,hi⟩⟩⟩,(h g3).2 hm3 g4⟩
 rcases(Qk (Nat.lt_succ_of_le hk))with rfl | rfl
 .obtain ⟨ys,r3,hy,hp,g3⟩:=DY (ZB (Aa:=Aa) (d:=d+3) (M:=[.lst false [.s (.w 8),.s (.w 9)]]) (e1:=some (il (n:Int))) (e3:=none) (e4:=none) (e5:=some (il (1+(c:Int)))) rfl rfl) (DX 0 ((1+c:Nat):Int)) r2
  rw[List.length_map,EY]at hy
  refine fin (r3:=r3) (k:=8) (.inl rfl) hy (List.all_eq_true.mpr fun x hx=>by obtain⟨i,rfl,_⟩:=hp x hx;rfl) (fun J=>hp) fun {i3 r4} g4=> ?_
  rcases(Qk (Nat.lt_succ_of_le hn))with rfl | rfl
  .exact ⟨fun h=>QF .z fun q=>q g (by decide) hm g2 (by decide) hm2 ec c3 g3 g4 (by decide) h,fun h {l r5} gn=>QF .z fun q=>q g (by decide) hm g2 (by decide) hm2 ec c3 g3 g4 (by decide) h gn⟩
  .exact ⟨fun h=>QF .z fun q=>q g (by decide) hm g2 (by decide) hm2 ec c3 g3 g4 (by decide) h,fun h {l r5} gn=>QF .z fun q=>q g (by decide) hm g2 (by decide) hm2 ec c3 g3 g4 (by decide) h gn⟩
 .obtain ⟨ys,r3,hy,hp,g3⟩:=DY (aL (Aa:=Aa) (d:=d+3) (M:=[.lst false [.s (.w 8),.s (.w 9)]]) (e1:=some (il (n:Int))) (e3:=none) (e4:=none) (e5:=some (il (1+(c:Int)))) rfl rfl) (DX 0 ((1+c:Nat):Int)) r2
  rw[List.length_map,EY]at hy
  refine fin (r3:=r3) (k:=9) (.inr rfl) hy (List.all_eq_true.mpr fun x hx=>by cases hp x hx;rfl) (fun h=>by cases h) fun {i3 r4} g4=> ?_
  rcases(Qk (Nat.lt_succ_of_le hn))with rfl | rfl
  .exact ⟨fun h=>QF .z fun q=>q g (by decide) hm g2 (by decide) hm2 ec c3 g3 g4 (by decide) h,fun h {l r5} gn=>QF .z fun q=>q g (by decide) hm g2 (by decide) hm2 ec c3 g3 g4 (by decide) h gn⟩
  .exact ⟨fun h=>QF .z fun q=>q g (by decide) hm g2 (by decide) hm2 ec c3 g3 g4 (by decide) h,fun h {l r5} gn=>QF .z fun q=>q g (by decide) hm g2 (by decide) hm2 ec c3 g3 g4 (by decide) h gn⟩
end
section
variable{Aa:List Int}{d k m n:Nat}{xs ys:List TV}{ns:Option (List TV)}{a x:TV}{r:List Int}
theorem V6{n:Nat}:∀{ys:List TV},(∀y ∈ ys,FU n y)->∃ts,ys=Aj.vs ts/\∀t ∈ ts,Bf true n t
 | [],_=>⟨[],rfl,fun t h=>by cases h⟩
 | y::ys,h=>by
  obtain⟨t,e,ht⟩:=h y (.head _)
  obtain⟨ts,e2,h2⟩:=V6 fun y hy=>h y (.tail _ hy)
  exact⟨t::ts,by rw[e,e2];rfl,fun u hu=>by cases hu with | head=>exact ht | tail _ h=>exact h2 u h⟩
theorem ZO:Mk Aa (d+5) .AX [.r 0,.f (.s (.int ((0:Nat):Int)))] (FU 0):=fun r=>by
 obtain⟨i,j,r1,hj,hm,g⟩:=Bi (Aa:=Aa) (d:=d+3) 3 (by decide) r
 rcases(Zt hj)with h | rfl
 .exact J7 (Nat.zero_le _) h hm g
 .exact ⟨_,r1,⟨.null,rfl,.null⟩,QF .z fun q=>q g (by decide) hm⟩
theorem Ih{n c:Nat}{ys:List TV}(hc:c<=4)(hy:ys.length=c)(h:∀y ∈ ys,FU n y){ns:Option (List TV)}(hn:M0 ns c):FU (n+1) (AD 7 ys (D1 ns)):=by
 obtain⟨ts,rfl,ht⟩:=V6 h
 rw[DN]at hy
 subst hy
 exact⟨.list ts ns,rfl,.list (by exact zz ‹_› (by rfl)) hn (fun J=>hc) ht⟩
theorem Wi:Mk Aa (d+6) .AX [.r 0,.f (.s (.int ((1:Nat):Int)))] (FU 1):=fun r=>by
 obtain⟨i,j,r1,hj,hm,g⟩:=Bi (Aa:=Aa) (d:=d+4) 5 (by decide) r
 rcases(dE hj)with h | rfl | hj
 .exact J7 (Nat.le_refl _) h hm g
 .exact ⟨_,r1,⟨.null,rfl,.null⟩,QF .z fun q=>q g (by decide) hm⟩
 .obtain ⟨i2,c,r2,hc,hm2,g2⟩:=Bi (Aa:=Aa) (d:=d+4) 4 (by decide) r1
  have el:∀(x:TV) (r:List Int),∃y r',FU 0 y/\TM Aa (d+5) (.call .AX [.O 0,.bin .sub (.O 1) (.cst (.int 1))]) ([some (.r 0),some (il ((1:Nat):Int)),some (il (j:Int)),none,none,none]++[some (.f x)]) (CB r++[]) (.ok (some y) (CB r'++[])):=fun x r=>by
   obtain⟨y,r',p,h⟩:=ZO (Aa:=Aa) (d:=d) r
   exact⟨y,r',p,QM .z fun q=>q h⟩
  obtain⟨ys,r3,hy,hp,g3⟩:=DY el (DX 0 (c:Int)) r2
  rw[List.length_map,EY]at hy
  obtain⟨i3,b,r4,hb,hm3,g4⟩:=Bi (Aa:=Aa) (d:=d+4) 2 (by decide) r3
  have c1:c<=1000:=aN hc (by decide)
  rcases(Qk hb)with rfl | rfl
  .rcases hj with rfl | rfl<;>exact⟨_,r4,Ih (by omega) hy hp H7,QF .z fun q=>q g (by decide) hm g2 (by decide) hm2 rfl c1 g3 g4 (by decide) hm3⟩
  .obtain ⟨_,r5,⟨l,rfl,hl,hla⟩,g5⟩:=KF (Aa:=Aa) (d:=d+3) (n:=ys.length) (by exact dB ‹_› ‹_› (by rfl)) r4
   rcases hj with rfl | rfl<;>exact⟨_,r5,Ih (by omega) hy hp (Km (hl.trans hy) hla),QF .z fun q=>q g (by decide) hm g2 (by decide) hm2 rfl c1 g3 g4 (by decide) hm3 g5⟩
theorem Vg:Mk Aa (d+7) .CP [.r 0] (FU 2):=fun r=>by
 obtain⟨i,j,r1,hj,hm,g⟩:=Bi (Aa:=Aa) (d:=d+5) 6 (by decide) r
 obtain⟨i2,c,r2,hc,hm2,g2⟩:=Bi (Aa:=Aa) (d:=d+5) 4 (by decide) r1
 have c1:c<=1000:=aN hc (by decide)
 rcases(eG hj)with rfl | rfl | hj
 .have el:∀(x:TV) (r:List Int),∃y r',(∃i:Int,y=.s (.int i)/\0<=i/\i<=100000)/\TM Aa (d+6) (.bin .mod (.call .Ao [.O 0]) (.cst (.int 9))) ([some (.r 0),some (il ((4:Nat):Int)),none,none]++[some (.f x)]) (CB r++[]) (.ok (some y) (CB r'++[])):=fun x r=>by
   obtain⟨i,j,r',hj,hm,g⟩:=Bi (Aa:=Aa) (d:=d+5) 9 (by decide) r
   exact⟨.s (.int (j:Int)),r',⟨_,rfl,fY hj (by decide)⟩,QM .z fun q=>q g (by decide) hm⟩
  obtain⟨ys,r3,hy,hp,g3⟩:=DY el (DX 0 (c:Int)) r2
  rw[List.length_map,EY]at hy
  exact⟨_,r3,⟨.atom 8 ys none,rfl,.atom (.inl rfl) (by exact dB ‹_› ‹_› (by rfl)) H7 ⟨List.all_eq_true.mpr fun x hx=>by obtain⟨i,rfl,_⟩:=hp x hx;rfl,fun J=>⟨by exact dB ‹_› ‹_› (by rfl),fun J=>hp⟩⟩⟩,QF .z fun q=>q g (by decide) hm g2 (by decide) hm2 rfl c1 g3⟩
 .exact ⟨_,r1,⟨.null,rfl,.null⟩,QF .z fun q=>q g (by decide) hm⟩
 .have el:∀(x:TV) (r:List Int),∃y r',FU 1 y/\TM Aa (d+6) (.call .AX [.O 0,.cst (.int 1)]) ([some (.r 0),some (il (j:Int)),some (il (c:Int)),none]++[some (.f x)]) (CB r++[]) (.ok (some y) (CB r'++[])):=fun x r=>by
   obtain⟨y,r',p,h⟩:=Wi (Aa:=Aa) (d:=d) r
   exact⟨y,r',p,QM .z fun q=>q h⟩
  obtain⟨ys,r3,hy,hp,g3⟩:=DY el (DX 0 (c:Int)) r2
  rw[List.length_map,EY]at hy
  obtain⟨i3,b,r4,hb,hm3,g4⟩:=Bi (Aa:=Aa) (d:=d+5) 2 (by decide) r3
  rcases(Qk hb)with rfl | rfl
  .rcases hj with rfl | rfl | rfl | rfl<;>exact⟨_,r4,Ih (by omega) hy hp H7,QF .z fun q=>q g (by decide) hm g2 (by decide) hm2 rfl c1 g3 g4 (by decide) hm3⟩
  .obtain ⟨_,r5,⟨l,rfl,hl,hla⟩,g5⟩:=KF (Aa:=Aa) (d:=d+4) (n:=c) (by exact bK ‹_› (by rfl)) r4
   rcases hj with rfl | rfl | rfl | rfl<;>exact⟨_,r5,Ih (by omega) hy hp (Km hl hla),QF .z fun q=>q g (by decide) hm g2 (by decide) hm2 rfl c1 g3 g4 (by decide) hm3 g5⟩
end
noncomputable abbrev Lu:List (MS Fn):=(prog .Be).body
noncomputable def Wb(k:Nat):TV:=if k=7 then .s (.w 6)else .s .none
noncomputable def Qg(k:Nat)(ys:List TV)(p:Nat):List TV:=if ys.length<=p then ys++List.replicate (p+1 - ys.length) (Wb k)else ys
inductive Wl:Nat->TV->TV->Prop
 | list {x:TV}:Wl 7 x x
 | same {k:Nat} {y a:TV}:Ka k->Wl k (.n .tup [.s (.w k),.n .lst [y],a]) y
 | dec {i:Int} {a:TV}:0<=i->i<=100000->Wl 9 (.n .tup [.s (.w 8),.n .lst [.s (.int i)],a]) (.s (.dec i))
section
variable{Aa:List Int}{d k k' kq m i j n p:Nat}{xs ys Y:List TV}{ns:Option (List TV)}{a x put wv:TV}{mo:Option Nat}
noncomputable abbrev PX(s0 key put:TV)(e3:Option LV)(k:Nat)(Y:List TV)(ns:Option (List TV))(n p:Nat):AA:=[some (.f s0),some (.f key),some (.f put),e3,some (sv (.w k)),some (.f (.n .lst Y)),some (.f (Ev ns)),some (il (n:Int)),some (.f (R6 ns)),some (il (p:Int)),none,some (.r 0),none]
theorem Ob{s0 key:TV}{e3:Option LV}(hw:Wl k put wv)(hy:Y.length<=90)(hp:p < 100)(hl:Y.length<=p->(ns.getD (List.replicate Y.length FJ)).length+(Kd mo).toList.length<=p+1):
  BJ Aa d (Lu.drop 11) (PX s0 key put e3 k Y ns Y.length p) [.lst false (Kd mo).toList] (.ok (.n .tup [.s (.w k),.n .lst ((Qg k Y p).set p wv),Ev (E8 Y.length ns mo p)])):=by
 by_cases hge:Y.length<=p
 .have hl:=hl hge
  have h1:(Y.length:Int)<=(p:Int):=Int.ofNat_le.mpr hge
  have e1:Qg k Y p=Y++List.replicate (p+1 - Y.length) (Wb k):=if_pos hge
  have z0:(p:Int)+1 - (Y.length:Int)=((p+1 - Y.length:Nat):Int):=by exact gU ‹_›
  have c0:∀n:Nat,p+1 - n<=1000:=fun n=>by exact fF ‹_› (by rfl)
  have c4:Y.length<=1000:=by exact zz (b:=90) ‹_› (by rfl)
  have c5:∀{x:TV},Y.length+(List.replicate (p+1 - Y.length) x).length<=5000:=fun {x}=>by rw[List.length_replicate];exact gT ‹_› ‹_› (by rfl)
  have Ba:∀{x:TV},p < (Y++List.replicate (p+1 - Y.length) x).length:=fun {x}=>by rw[C2,List.length_replicate];exact fW ‹_›
  have c1:∀l:List TV,l.length<=p+1->((p:Int)+1) - (l.length:Int)=((p+1 - l.length:Nat):Int):=fun l h=>by exact cZ ‹_›
  have c2:∀l:List TV,l.length<=p+1->l.length+(List.replicate (p+1 - l.length) FJ).length<=5000:=fun l h=>by rw[List.length_replicate];exact f1 ‹_› ‹_› (by rfl)
  have c3:∀l l2:List TV,l.length+l2.length<=p+1->l.length+l2.length<=5000:=fun l l2 h=>by exact Nat.le_trans ‹_› (zz ‹_› (by rfl))
  rw[e1]
  unfold E8
  rw[if_pos hge]
  cases ns with
  | some l=>
   cases mo with
   | none=>
    have hl:l.length+([]:List TV).length<=p+1:=hl
    have hl2:(l++([]:List TV)).length<=p+1:=by rw[C2];exact hl
    have e2:C4 l (p+1)=C4 (l++[]) (p+1):=by rw[List.append_nil]
    show BJ _ _ _ _ _ (.ok (.n .tup [_,_,Ev (some (C4 l (p+1)))]))
    rw[e2]
    cases hw with
    | list=>exact QZ (.b .z) fun q=>q h1 z0 (c0 _) c5 (c3 _ _ hl) (c1 _ hl2) (c0 _) (c2 _ hl2) (BK rfl) Ba
    | same hk=>rcases hk with rfl | rfl<;>exact QZ (.b .z) fun q=>q h1 z0 (c0 _) c5 (c3 _ _ hl) (c1 _ hl2) (c0 _) (c2 _ hl2) (BK rfl) Ba
    | dec hi hj=>exact QZ (.b .z) fun q=>q h1 z0 (c0 _) c5 (c3 _ _ hl) (c1 _ hl2) (c0 _) (c2 _ hl2) (BK rfl) hi hj Ba
   | some j=>
    have hl:l.length+[TV.s (.w j)].length<=p+1:=hl
    have hl2:(l++[TV.s (.w j)]).length<=p+1:=by rw[C2];exact hl
    cases hw with
    | list=>exact QZ (.b .z) fun q=>q h1 z0 (c0 _) c5 (c3 _ _ hl) (c1 _ hl2) (c0 _) (c2 _ hl2) (BK rfl) Ba
    | same hk=>rcases hk with rfl | rfl<;>exact QZ (.b .z) fun q=>q h1 z0 (c0 _) c5 (c3 _ _ hl) (c1 _ hl2) (c0 _) (c2 _ hl2) (BK rfl) Ba
    | dec hi hj=>exact QZ (.b .z) fun q=>q h1 z0 (c0 _) c5 (c3 _ _ hl) (c1 _ hl2) (c0 _) (c2 _ hl2) (BK rfl) hi hj Ba
  | none=>
   cases mo with
   | none=>
    cases hw with
    | list=>exact QZ (.b .z) fun q=>q h1 z0 (c0 _) c5 Ba
    | same hk=>rcases hk with rfl | rfl<;>exact QZ (.b .z) fun q=>q h1 z0 (c0 _) c5 Ba
    | dec hi hj=>exact QZ (.b .z) fun q=>q h1 z0 (c0 _) c5 hi hj Ba
   | some j=>
    have hl:(List.replicate Y.length FJ).length+[TV.s (.w j)].length<=p+1:=hl
    have hl2:(List.replicate Y.length FJ++[TV.s (.w j)]).length<=p+1:=by rw[C2];exact hl
    cases hw with
    | list=>exact QZ (.b .z) fun q=>q h1 z0 (c0 _) c5 rfl c4 (c3 _ _ hl) (c1 _ hl2) (c0 _) (c2 _ hl2) (BK rfl) Ba
    | same hk=>rcases hk with rfl | rfl<;>exact QZ (.b .z) fun q=>q h1 z0 (c0 _) c5 rfl c4 (c3 _ _ hl) (c1 _ hl2) (c0 _) (c2 _ hl2) (BK rfl) Ba
    | dec hi hj=>exact QZ (.b .z) fun q=>q h1 z0 (c0 _) c5 rfl c4 (c3 _ _ hl) (c1 _ hl2) (c0 _) (c2 _ hl2) (BK rfl) hi hj Ba
 .have h1:¬(Y.length:Int)<=(p:Int):=fun h=>hge (Int.ofNat_le.mp h)
  have e1:Qg k Y p=Y:=if_neg hge
  have Ba:p < Y.length:=Nat.lt_of_not_le hge
  rw[e1]
  unfold E8
  rw[if_neg hge]
  cases ns with
  | some l=>
   cases hw with
   | list=>exact QZ (.c .z) fun q=>q h1 Ba
   | same hk=>rcases hk with rfl | rfl<;>exact QZ (.c .z) fun q=>q h1 Ba
   | dec hi hj=>exact QZ (.c .z) fun q=>q h1 hi hj Ba
  | none=>
   cases hw with
   | list=>exact QZ (.c .z) fun q=>q h1 Ba
   | same hk=>rcases hk with rfl | rfl<;>exact QZ (.c .z) fun q=>q h1 Ba
   | dec hi hj=>exact QZ (.c .z) fun q=>q h1 hi hj Ba
end
theorem Dy{ts:List Aj}:(Aj.ws ts).length=ts.length:=by rw[Ea,List.length_map]
theorem RZ{ts:List Aj}{p:Nat}{q:Aj}:Aj.ws ((Eh ts p).set p q)=(Qg 7 (Aj.ws ts) p).set p q.w:=by
 rw[Ea,List.map_set]
 unfold Eh Qg
 rw[Dy]
 by_cases h:ts.length<=p
 .rw [if_pos h,if_pos h,List.map_append,List.map_replicate,Ea];rfl
 .rw [if_neg h,if_neg h,Ea]
section
variable{Aa:List Int}{d k k' kq m i j n p m':Nat}{xs ys Y:List TV}{ns nq:Option (List TV)}{a x put wv:TV}{mo:Option Nat}{st:Bool}{t q:Aj}{key:El}
theorem WK{n:Nat}(h1:M0 ns n)(h2:n<=p->n+mo.toList.length<=p+1)(h3:n<=p):(ns.getD (List.replicate n FJ)).length+(Kd mo).toList.length<=p+1:=by
 rw[OT]
 cases ns with
 | none=>rw[show(none:Option (List TV)).getD (List.replicate n FJ)=List.replicate n FJ from rfl,List.length_replicate];exact h2 h3
 | some l=>rw[show(some l).getD (List.replicate n FJ)=l from rfl,(h1 l rfl).2];exact h2 h3
theorem O5{s0 kv:TV}(hk:Ka k)(hx:xs.length<=8)(hn:M0 ns xs.length)(hi:∀x ∈ xs,k=8->∃i:Int,x=.s (.int i)/\0<=i/\i<=100000)(hq:Bf true m' q)(hp:p < 100)(hl:xs.length<=p->xs.length+mo.toList.length<=p+1)(e0:s0=(Aj.atom k xs ns).w):
  BJ Aa (d+2) (Lu.drop 10) (PX s0 kv q.w none k xs ns xs.length p) [.lst false (Kd mo).toList] (.ok (Ij (Dj (.atom k xs ns) p mo q))):=by
 have nl:=WK hn hl
 cases hq with
 | null=>rcases hk with rfl | rfl<;>exact QZ .z fun q=>q
 | @atom _ kq ys nq hkq hys hnq hiq=>
  rcases ys with _ | ⟨y,_ | ⟨y2,r⟩⟩
  .rcases hk with rfl | rfl<;>exact QZ .z fun q=>q
  .have stay:∀{k' X tl},tl.all (fun c=> !c.bor)=true->(k'=k/\X=xs\/k'=9/\k=8/\X=xs.map JT)->Wl k' (Aj.atom kq [y] nq).w (one kq (D4 k kq) y)->D4 k kq=k'->X=xs.map (one k k')->TS Aa (d+2) ((Lu.drop 10).take 1) (PX s0 kv (Aj.atom kq [y] nq).w none k xs ns xs.length p) [.lst false (Kd mo).toList] (.ok (PX s0 kv (Aj.atom kq [y] nq).w none k' X ns xs.length p,none) ([.lst false (Kd mo).toList,.lst false []]++tl))->BJ Aa (d+2) (Lu.drop 10) (PX s0 kv (Aj.atom kq [y] nq).w none k xs ns xs.length p) [.lst false (Kd mo).toList] (.ok (Ij (Dj (.atom k xs ns) p mo (.atom kq [y] nq)))):=fun {k' X tl} htl hX hw hK hX2 x=>by
    have hXl:X.length=xs.length:=by rw[hX2,List.length_map]
    have hk':Ka k':=by rcases hX with⟨rfl,_⟩ | ⟨rfl,_⟩;exact hk;exact .inr rfl
    have e:=Ob (Aa:=Aa) (d:=d+2) (mo:=mo) (s0:=s0) (key:=kv) (e3:=none) (k:=k') hw (Y:=X) (ns:=ns) (p:=p) (by exact Nat.le_trans (Nat.le_of_eq ‹_›) (zz ‹_› (by rfl))) hp (by rw[hXl];exact nl)
    rw[hXl]at e
    have h:=BJ.app (TS.cut Aa 12 1 x rfl htl rfl (Nat.le_refl 1)) e
    have e2:Ij (Dj (.atom k xs ns) p mo (.atom kq [y] nq))=.n .tup [.s (.w k'),.n .lst ((Qg k' X p).set p (one kq (D4 k kq) y)),Ev (E8 xs.length ns mo p)]:=by
     show TV.n .tup [.s (.w (D4 k kq)),.n .lst ((Hp (D4 k kq) (xs.map (one k (D4 k kq))) p).set p (one kq (D4 k kq) y)),Ev (E8 xs.length ns mo p)]=_
     rw[hK,<-hX2]
     rcases hk' with rfl | rfl<;>rfl
    rw[e2]
    exact h
   rcases hk with rfl | rfl
   .rcases hkq with rfl | rfl
    .exact stay (tl:=[]) rfl (.inl ⟨rfl,rfl⟩) (.same (.inl rfl)) rfl Fh.symm (QS .z fun q=>q)
    .have g:Fs (Wz Aa (d+2) (.strOf (.O 13))) (PX s0 kv (Aj.atom 9 [y] nq).w none 8 xs ns xs.length p) xs [.lst false (Kd mo).toList,.lst false []] (xs.map JT) [.lst false (Kd mo).toList,.lst false []]:=Fo fun x hm=>by
      obtain⟨i,rfl,h0,h1⟩:=hi x hm rfl
      exact QM .z fun q=>q h0 h1
     exact stay (tl:=[.fz (.n .lst (xs.map JT))]) rfl (.inr ⟨rfl,rfl,rfl⟩) (.same (.inr rfl)) rfl (congrArg (List.map · xs) (funext fun x=>(if_neg (by decide)).symm)) (QS .z fun q=>q g)
   .rcases hkq with rfl | rfl
    .obtain ⟨i,hi0,hi1,hi2⟩:=(hiq.2 rfl).2 rfl y (List.mem_cons_self ..)
     subst hi0
     exact stay (tl:=[]) rfl (.inl ⟨rfl,rfl⟩) (.dec hi1 hi2) rfl Fh.symm (QS .z fun q=>q)
    .exact stay (tl:=[]) rfl (.inl ⟨rfl,rfl⟩) (.same (.inr rfl)) rfl Fh.symm (QS .z fun q=>q)
  .have e:(1:Int) < ((y::y2::r).length:Int):=by simp only [List.length_cons];exact qG (Nat.succ_le_succ (Nat.succ_pos _))
   rcases hk with rfl | rfl<;>exact QZ (aa 5 (.b .z)) fun q=>q e
 | @list _ us nq hus hnq hs5 hts=>
  rcases us with _ | ⟨u,_ | ⟨u2,r⟩⟩
  .rcases hk with rfl | rfl<;>exact QZ .z fun q=>q
  .have x:TS Aa (d+2) ((Lu.drop 10).take 1) (PX s0 kv (Aj.list [u] nq).w none k xs ns xs.length p) [.lst false (Kd mo).toList] (.ok (PX s0 kv (Aj.list [u] nq).w none 7 (Aj.ws (xs.map fun x=> .atom k [x] none)) ns xs.length p,none) [.lst false (Kd mo).toList,.lst false []]):=by
    subst e0
    have f:=Ot (Aa:=Aa) (d:=d+1) (k:=k) (ns:=ns) hx
    rcases hk with rfl | rfl<;>exact QS .z fun q=>q f
   have e:=Ob (Aa:=Aa) (d:=d+2) (mo:=mo) (s0:=s0) (key:=kv) (e3:=none) (k:=7) (.list (x:=(Aj.list [u] nq).w)) (Y:=Aj.ws (xs.map fun x=> .atom k [x] none)) (ns:=ns) (p:=p) (by rw[Dy,List.length_map];exact zz ‹_› (by rfl)) hp (by rw[Dy,List.length_map];exact nl)
   rw[Dy,List.length_map]at e
   have h:=BJ.app (TS.cut Aa 12 1 x rfl rfl rfl (Nat.le_refl 1)) e
   rw[<-RZ]at h
   exact h
  .have e:(1:Int) < ((Aj.ws (u::u2::r)).length:Int):=by rw[Dy];simp only [List.length_cons];exact qG (Nat.succ_le_succ (Nat.succ_pos _))
   rcases hk with rfl | rfl<;>exact QZ (aa 5 (.b .z)) fun q=>q e
end
section
variable{Aa:List Int}{d k k' kq m i j n p m':Nat}{xs ys Y:List TV}{ns nq:Option (List TV)}{a x put wv kv:TV}{mo:Option Nat}{st:Bool}{t q:Aj}{key:El}{pl:Pl}
noncomputable abbrev VN(s0 kv put:TV)(k:Nat)(Y:List TV)(ns:Option (List TV))(n:Nat)(pt:TV):AA:=[some (.f s0),some (.f kv),some (.f put),none,some (sv (.w k)),some (.f (.n .lst Y)),some (.f (Ev ns)),some (il (n:Int)),some (.f (R6 ns)),some (.f pt),none,none,none]
theorem OD(e:t.w=.n .tup [.s (.w k),.n .lst Y,Ev ns])(Dn:t.names=ns)(A3:CO key)(hna:key≠.na)(hno:FM ns)(hp:AP ns true key=.ok pl):TS Aa (d+2) ((Lu.drop 1).take 6) [some (.f t.w),some (.f (Ca key)),some (.f q.w),none,none,none,none,none,none,none,none,none,none] [] (.ok (VN t.w (Ca key) q.w k Y ns Y.length pl.t,none) []):=by
 have n0:=Gp (Aa:=Aa) (d:=d+1) (t:=t)
 have s0:=KL (Aa:=Aa) (d:=d) (t:=t) (exact:=true) A3 hna (Dn▸hno)
 have k0:=QU A3 hna
 unfold O1 at s0
 rw[Dn]at n0 s0
 rw[hp]at s0
 rw[e]at n0 s0 ⊢
 cases pl with
 | na=>exact absurd hp (Fe hna)
 | no=>exact QS (.a (.b .z)) fun q=>q n0 k0 s0
 | «at» i=>exact QS (.a (.b .z)) fun q=>q n0 k0 s0
theorem JS{s0:TV}(hq:k=7->q≠.null)(hk:Kv k):TS Aa (d+2) ((Lu.drop 7).take 3) (VN s0 (.s (.w j)) q.w k Y ns n cV) [] (.ok (PX s0 (.s (.w j)) q.w none k Y ns n n,none) [.lst false (Kd (some j)).toList]):=by
 cases q with
 | null=>
      rcases hk with rfl | rfl | rfl
      .exact absurd rfl (hq rfl)
      .exact QS .z fun q=>q
      .exact QS .z fun q=>q
 | atom=>exact QS .z fun q=>q
 | list=>exact QS .z fun q=>q
theorem JZ{s0:TV}(hq:k=7->q≠.null)(hk:Kv k):TS Aa (d+2) ((Lu.drop 7).take 3) (VN s0 kv q.w k Y ns n (.s (.int (i:Int)))) [] (.ok (PX s0 kv q.w none k Y ns n i,none) [.lst false (Kd none).toList]):=by
 have h0:¬((i:Nat):Int) < 0:=Int.not_lt.mpr (Int.natCast_nonneg i)
 cases q with
 | null=>
      rcases hk with rfl | rfl | rfl
      .exact absurd rfl (hq rfl)
      .exact QS (.a (.a (.c (.c .z)))) fun q=>q h0 h0
      .exact QS (.a (.a (.c (.c .z)))) fun q=>q h0 h0
 | atom=>exact QS (.a (.c (.c .z))) fun q=>q h0 h0
 | list=>exact QS (.a (.c (.c .z))) fun q=>q h0 h0
theorem J2{l:List TV}{i:Nat}:l.take i++l.drop (i+1)=l.eraseIdx i:=(List.eraseIdx_eq_take_drop_succ ..).symm
theorem Yj{s0:TV}(hi:i < 90)(hY:Y.length<=8)(hn:∀l,ns=some l->l.length<=8):BJ Aa (d+2) (Lu.drop 7) (VN s0 kv Aj.null.w 7 Y ns Y.length (.s (.int (i:Int)))) [] (.ok (if Y.length<=i then s0 else .n .tup [.s (.w 7),.n .lst (Y.eraseIdx i),Ev (ns.map (·.eraseIdx i))])):=by
 have h0:¬((i:Nat):Int) < 0:=Int.not_lt.mpr (Int.natCast_nonneg i)
 by_cases hge:Y.length<=i
 .rw [if_pos hge]
  have h1:(Y.length:Int)<=(i:Int):=Int.ofNat_le.mpr hge
  exact QZ (.a (.a (.c (.b .z)))) fun q=>q h0 h1
 .rw [if_neg hge,<-J2]
  have h1:¬(Y.length:Int)<=(i:Int):=fun h=>hge (Int.ofNat_le.mp h)
  have f1:i<=BR:=by unfold BR;exact bK ‹_› (by rfl)
  have f2:i+1<=BR:=by unfold BR;exact zz ‹_› (by rfl)
  have f3:∀{l:List TV},l.length<=8->(l.take i).length+(l.drop (i+1)).length<=5000:=fun {l} h=>by rw[List.length_take,List.length_drop];exact f9 ‹_› (by rfl)
  cases ns with
  | none=>exact QZ (.a (.a (.c (.c .z)))) fun q=>q h0 h1 f1 f2 (f3 hY)
  | some l=>
   rw[show(some l).map (·.eraseIdx i)=some (l.take i++l.drop (i+1))from congrArg some J2.symm]
   exact QZ (.a (.a (.c (.c .z)))) fun q=>q h0 h1 f1 f2 (f3 (hn l rfl)) (BK rfl) f1 f2 (f3 hY)
theorem MF:∀{ts:List Aj} {p:Nat},Aj.ws (ts.eraseIdx p)=(Aj.ws ts).eraseIdx p
 | [],_=>rfl
 | t::ts,0=>rfl
 | t::ts,p+1=>congrArg (List.cons t.w) MF
theorem L9(hp:AP ns true key=.ok .no):∃j,key=.nm j:=by
 cases key with
 | na=>cases hp
 | nm j=>exact⟨j,rfl⟩
 | num i=>cases i<;>cases hp
theorem MQ(hno:FM ns)(hnum:∀i,key=.num i->i<=80)(hp:AP ns true key=.ok (.at i)):i < 90:=by
 cases key with
 | na=>cases hp
 | nm j=>exact Nat.lt_of_lt_of_le (Pe hno (Except.ok.inj hp)) (by decide)
 | num n=>cases n with
  | zero=>cases hp
  | succ n=>cases hp;have:=hnum _ rfl;exact zz ‹_› (by rfl)
noncomputable abbrev Nc(s0 kv put:TV):AA:=[some (.f s0),some (.f kv),some (.f put),none,none,none,none,none,none,none,none,none,none]
theorem SD(e:t.w=.n .tup [.s (.w k),.n .lst Y,Ev ns])(Dn:t.names=ns)(A3:CO key)(hna:key≠.na)(hno:FM ns){c:Nat}(hp:AP ns true key=.error c):BJ Aa (d+2) (Lu.drop 1) (Nc t.w (Ca key) q.w) [] (.ok (.n .lst [.s (.w 11),.s (.w c)])):=by
 have n0:=Gp (Aa:=Aa) (d:=d+1) (t:=t)
 have s0:=KL (Aa:=Aa) (d:=d) (t:=t) (exact:=true) A3 hna (Dn▸hno)
 have k0:=QU A3 hna
 unfold O1 at s0
 rw[Dn]at n0 s0
 rw[hp]at s0
 rw[e]at n0 s0 ⊢
 exact QZ (.a (.b .z)) fun q=>q n0 k0 s0
theorem V4(e:t.w=.n .tup [.s (.w k),.n .lst Y,Ev ns])(Dn:t.names=ns):BJ Aa (d+2) (Lu.drop 1) (Nc t.w (Ca .na) q.w) [] (.ok (.n .lst [.s (.w 11),.s (.w 28)])):=by
 have n0:=Gp (Aa:=Aa) (d:=d+1) (t:=t)
 rw[Dn]at n0
 rw[e]at n0 ⊢
 exact QZ .z fun q=>q n0
theorem Zu(ht:Bf true m t)(VT:t≠.null)(hq:Bf st m' q)(hsq:st=true\/∃ts ns,t=.list ts ns)(A3:CO key)(hnum:∀i,key=.num i->i<=80):BJ Aa (d+2) (Lu.drop 1) (Nc t.w (Ca key) q.w) [] (.ok (Ij (Cf t key q))):=by
 cases ht with
 | null=>exact absurd rfl VT
 | @atom _ k xs ns hk hx hn hi=>
  have hst:st=true:=hsq.elim id fun⟨_,_,h⟩=>by cases h
  subst hst
  have hno:FM ns:=hn.ok hx
  have hi8:∀x ∈ xs,k=8->∃i:Int,x=.s (.int i)/\0<=i/\i<=100000:=fun x hm h=>(hi.2 rfl).2 h x hm
  have ek:Bv .na=none:=rfl
  unfold Cf
  rw[show(Aj.atom k xs ns).names=ns from rfl]
  by_cases hna:key=.na
  .subst hna;exact V4 rfl rfl
  .cases hp:AP ns true key with
   | error c=>exact SD (t:= .atom k xs ns) rfl rfl A3 hna hno hp
   | ok pl=>
    have s:=OD (Aa:=Aa) (d:=d) (t:= .atom k xs ns) (q:=q) rfl rfl A3 hna hno hp
    cases pl with
    | na=>exact absurd hp (Fe hna)
    | no=>
     obtain⟨j,rfl⟩:=L9 hp
     exact BJ.app s (BJ.app (JS (fun h=>by exact(g8 hk h (by rfl)).elim) (.inr hk)) (O5 hk hx hn hi8 hq (by exact g5 ‹_› (by rfl)) (fun J=>Nat.le_refl _) rfl))
    | «at» i=>
     have hi':=MQ hno hnum hp
     exact BJ.app s (BJ.app (JZ (fun h=>by exact(g8 hk h (by rfl)).elim) (.inr hk)) (O5 hk hx hn hi8 hq (by exact zz ‹_› (by rfl)) (fun h=>Nat.le_succ_of_le h) rfl))
 | @list _ ts ns hx hn hs hts=>
  have hno:FM ns:=hn.ok hx
  have hxw:(Aj.ws ts).length<=8:=by rw[Dy];exact hx
  unfold Cf
  rw[show(Aj.list ts ns).names=ns from rfl]
  by_cases hna:key=.na
  .subst hna;exact V4 rfl rfl
  .cases hp:AP ns true key with
   | error c=>exact SD (t:= .list ts ns) rfl rfl A3 hna hno hp
   | ok pl=>
    have s:=OD (Aa:=Aa) (d:=d) (t:= .list ts ns) (q:=q) rfl rfl A3 hna hno hp
    have fin:∀{kv p mo},p < 90->(ts.length<=p->ts.length+mo.toList.length<=p+1)->BJ Aa (d+2) (Lu.drop 10) (PX (Aj.list ts ns).w kv q.w none 7 (Aj.ws ts) ns (Aj.ws ts).length p) [.lst false (Kd mo).toList] (.ok (Ij (Dj (.list ts ns) p mo q))):=fun {kv p mo} hp hl=>by
     have nl:=WK (p:=p) (mo:=mo) hn hl
     rw[<-Dy]at nl
     have e:=Ob (Aa:=Aa) (d:=d+2) (mo:=mo) (s0:=(Aj.list ts ns).w) (key:=kv) (e3:=none) (k:=7) (.list (x:=q.w)) (Y:=Aj.ws ts) (ns:=ns) (p:=p) (by exact zz ‹_› (by rfl)) (by exact zz ‹_› (by rfl)) nl
     have x:TS Aa (d+2) ((Lu.drop 10).take 1) (PX (Aj.list ts ns).w kv q.w none 7 (Aj.ws ts) ns (Aj.ws ts).length p) [.lst false (Kd mo).toList] (.ok (PX (Aj.list ts ns).w kv q.w none 7 (Aj.ws ts) ns (Aj.ws ts).length p,none) [.lst false (Kd mo).toList]):=QS .z fun q=>q
     have h:=BJ.app x e
     rw[<-RZ,Dy]at h
     rw[Dy]
     exact h
    cases pl with
    | na=>exact absurd hp (Fe hna)
    | no=>
     obtain⟨j,rfl⟩:=L9 hp
     by_cases hqn:q=.null
     .subst hqn
      exact BJ.app s (QZ .z fun q=>q)
     .rw [show(Except.ok Pl.no).bind (Ll (.list ts ns) q (Bv (.nm j)))=Dj (.list ts ns) ts.length (some j) q by cases q<;>first | exact absurd rfl hqn | rfl]
      have f:=fin (kv:=Ca (.nm j)) (p:=ts.length) (mo:=some j) (by exact g5 ‹_› (by rfl)) (fun J=>Nat.le_refl _)
      have g:=JS (Aa:=Aa) (d:=d) (j:=j) (k:=7) (Y:=Aj.ws ts) (ns:=ns) (n:=(Aj.ws ts).length) (s0:=(Aj.list ts ns).w) (q:=q) (fun J=>hqn) (.inl rfl)
      rw[Dy]at f g s
      exact BJ.app s (BJ.app g f)
    | «at» i=>
     have hi':=MQ hno hnum hp
     by_cases hqn:q=.null
     .subst hqn
      have g:=Yj (Aa:=Aa) (d:=d) (kv:=Ca key) (Y:=Aj.ws ts) (ns:=ns) (i:=i) (s0:=(Aj.list ts ns).w) hi' hxw (fun l h=>by rw[(hn l h).2];exact hx)
      have h:=BJ.app s g
      have e:Ij ((Except.ok (Pl.at i)).bind (Ll (.list ts ns) .null (Bv key)))=if (Aj.ws ts).length<=i then(Aj.list ts ns).w else .n .tup [.s (.w 7),.n .lst ((Aj.ws ts).eraseIdx i),Ev (ns.map (·.eraseIdx i))]:=by
       show Ij (if ts.length<=i then _ else _)=_
       rw[Dy]
       by_cases hge:ts.length<=i
       .rw [if_pos hge,if_pos hge];rfl
       .rw [if_neg hge,if_neg hge]
        show TV.n .tup [.s (.w 7),.n .lst (Aj.ws (ts.eraseIdx i)),_]=_
        rw[MF]
      rw[e]
      exact h
     .rw [show(Except.ok (Pl.at i)).bind (Ll (.list ts ns) q (Bv key))=Dj (.list ts ns) i none q by cases q<;>first | exact absurd rfl hqn | rfl]
      exact BJ.app s (BJ.app (JZ (fun J=>hqn) (.inl rfl)) (fin (by exact zz ‹_› (by rfl)) (fun h=>Nat.le_succ_of_le h)))
theorem Hv(ht:Bf true m t)(hq:Bf st m' q)(hsq:st=true\/∃ts ns,t=.list ts ns)(A3:CO key)(hnum:∀i,key=.num i->i<=80):Cj Aa (d+3) .Be [t.w,Ca key,q.w] (Ij (BQ t key q)):=by
 have nn:t≠.null->Cj Aa (d+3) .Be [t.w,Ca key,q.w] (Ij (Cf t key q)):=fun h0=>by
  have e:=Zu (Aa:=Aa) (d:=d) ht h0 hq hsq A3 hnum
  have x:TS Aa (d+2) (Lu.take 1) (Nc t.w (Ca key) q.w) [] (.ok (Nc t.w (Ca key) q.w,none) []):=by
   cases t with
   | null=>exact absurd rfl h0
   | atom=>exact QS .z fun q=>q
   | list=>exact QS .z fun q=>q
  exact QB (f:= .Be) (args:=[.f t.w,.f (Ca key),.f q.w]) (r:= .ok _) rfl rfl (.app (b:=Lu.take 1) x e)
 cases t with
 | list ts ns=>exact nn (by intro h;cases h)
 | atom k xs ns=>exact nn (by intro h;cases h)
 | null=>
  have st1:st=true:=hsq.elim id fun⟨_,_,h⟩=>by cases h
  have go:∀{b:Aj} {v:Option LV} {L1:List LC},Bf true 1 b->b≠.null->L1.all (fun c=> !c.bor)=true->TS Aa (d+2) (Lu.take 1) (Nc (.s (.w 6)) (Ca key) q.w) [] (.ok ((Nc b.w (Ca key) q.w).set 3 v,none) L1)->Cj Aa (d+3) .Be [.s (.w 6),Ca key,q.w] (Ij (Cf b key q)):=fun {b v L1} h1 h2 h4 h3=>by
   have e:=Zu (Aa:=Aa) (d:=d) h1 h2 hq (.inl st1) A3 hnum
   exact QB (f:= .Be) (args:=[.f (.s (.w 6)),.f (Ca key),.f q.w]) (r:= .ok _) rfl rfl (.app (b:=Lu.take 1) (TS.cut Aa 3 0 h3 rfl h4 rfl (Nat.le_refl 0)) e)
  have l0:Bf true 1 (.list [] none):= .list (by decide) E1 (fun J=>by decide) (fun t h=>by cases h)
  have a0:∀{k},Ka k->Bf true 1 (.atom k [] none):=fun h=> .atom h (by decide) E1 ⟨rfl,fun J=>⟨by decide,fun J x h=>by cases h⟩⟩
  cases hq with
  | null=>exact QF .z fun q=>q
  | @list _ us nq hus hnq hs5 hts=>exact go (b:= .list [] none) (v:=some (bl false)) (L1:=[.fz (.n .lst []),.fz (.n (.dct []) [])]) l0 (by intro h;cases h) rfl (QS .z fun q=>q)
  | @atom _ kq ys nq hkq hys hnq hiq=>
   rcases ys with _ | ⟨y,_ | ⟨y2,r⟩⟩
   .rcases hkq with rfl | rfl<;>exact go (b:= .list [] none) (v:=some (bl false)) (L1:=[.fz (.n .lst []),.fz (.n (.dct []) [])]) l0 (by intro h;cases h) rfl (QS .z fun q=>q)
   .rcases hkq with rfl | rfl
    .exact go (b:= .atom 8 [] none) (v:=some (bl true)) (L1:=[.fz (.n .lst []),.fz (.n (.dct []) [])]) (a0 (.inl rfl)) (by intro h;cases h) rfl (QS .z fun q=>q)
    .exact go (b:= .atom 9 [] none) (v:=some (bl true)) (L1:=[.fz (.n .lst []),.fz (.n (.dct []) [])]) (a0 (.inr rfl)) (by intro h;cases h) rfl (QS .z fun q=>q)
   .have e:((y::y2::r).length:Int)≠1:=by simp only [List.length_cons];exact fun e=>cY e
    rcases hkq with rfl | rfl<;>exact go (b:= .list [] none) (v:=some (bl false)) (L1:=[.fz (.n .lst []),.fz (.n (.dct []) [])]) l0 (by intro h;cases h) rfl (QS (aa 5 (.b .z)) fun q=>q (ZY e))
end
noncomputable abbrev Ve(x:TV):Bool:=x.casesOn Vp (fun J J=>false) false
section
variable{k k' kq m i j n p m':Nat}{xs ys Y:List TV}{ns nq:Option (List TV)}{a x:TV}{mo:Option Nat}{st:Bool}{t q r:Aj}{key:El}{pl:Pl}
theorem F9{l:List TV}{sz:Nat}(h:l.length<=sz):(C4 l sz).length=sz:=by
 unfold C4;rw[C2,List.length_replicate];exact Nat.add_sub_cancel' ‹_›
theorem K2{α:Type}{f:α->Bool}{x:α}(h:f x=true):∀n,(List.replicate n x).all f=true
 | 0=>rfl
 | n+1=>by rw[List.replicate_succ,List.all_cons,h,K2 h n];rfl
theorem G8{l:List TV}{sz:Nat}(h:l.all Ee=true):(C4 l sz).all Ee=true:=by
 unfold C4;rw[List.all_append,h,K2 (by decide)];rfl
theorem Pg(hn:M0 ns n)(hmo:∀j,mo=some j->12<=j/\j < 18)(hl:n<=p->n+mo.toList.length<=p+1):M0 (E8 n ns mo p) (max n (p+1)):=by
 have hj:∀j,mo=some j->Ee (.s (.w j))=true:=fun j h=>decide_eq_true (hmo j h)
 unfold E8
 by_cases h:n<=p
 .rw [if_pos h,Nat.max_eq_right (by exact Nat.le_succ_of_le ‹_›)]
  have hl:=hl h
  intro l' e
  cases ns with
  | none=>cases mo with
   | none=>cases e
   | some j=>
    cases e
    refine⟨G8 ?_,F9 ?_⟩
    .rw [List.all_append,K2 (by decide),List.all_cons,hj j rfl];rfl
    .rw [C2,List.length_replicate];exact hl
  | some l=>cases mo with
   | none=>cases e;exact⟨G8 (hn l rfl).1,F9 (by rw[(hn l rfl).2];exact Nat.le_succ_of_le ‹_›)⟩
   | some j=>
    cases e
    refine⟨G8 ?_,F9 ?_⟩
    .rw [List.all_append,(hn l rfl).1,List.all_cons,hj j rfl];rfl
    .rw [C2,(hn l rfl).2];exact hl
 .rw [if_neg h,Nat.max_eq_left (by exact Nat.gt_of_not_le ‹_›)];exact hn
theorem RL:(Hp k xs p).length=max xs.length (p+1):=by
 unfold Hp;split
 .rw [C2,List.length_replicate];exact fS ‹_›
 .exact fU ‹_›
theorem PK{ts:List Aj}:(Eh ts p).length=max ts.length (p+1):=by
 unfold Eh;split
 .rw [C2,List.length_replicate];exact fS ‹_›
 .exact fU ‹_›
theorem Ol{α:Type}{P:α->Prop}{l:List α}{y:α}(h:∀x ∈ l,P x)(hy:P y):∀x ∈ l.set i y,P x:=fun x hx=>by
 rcases List.mem_or_eq_of_mem_set hx with h1 | h1
 .exact h x h1
 .exact h1▸hy
theorem XC(h:Ve x=true):Ve (JT x)=true:=by
 cases x with
 | s v=>cases v<;>first | rfl | exact h
 | n=>exact h
 | u=>exact h
theorem R5(h:Ve x=true):Ve (one k k' x)=true:=by
 unfold one;split
 .exact h
 .exact XC h
theorem Rh{ts:List Aj}(h:∀t ∈ ts,Bf false n t):∀t ∈ Eh ts p,Bf false n t:=fun t ht=>by
 unfold Eh at ht;split at ht
 .rcases List.mem_append.mp ht with h1 | h1
  .exact h t h1
  .rw [List.eq_of_mem_replicate h1];exact .null
 .exact h t ht
theorem I3:M0 none n:=fun J h=>by cases h
theorem Mn(ht:Bf true m t)(hq:Bf st m' q)(hp:p<=6)(hmo:∀j,mo=some j->12<=j/\j < 18)(hl:t.len<=p->t.len+mo.toList.length<=p+1)(h:Dj t p mo q=.ok r):Bf false (max m (m'+1)) r:=by
 have go:∀{d0 D:Nat} {ts:List Aj} {ns:Option (List TV)},ts.length<=8->M0 ns ts.length->(∀t ∈ ts,Bf false D t)->Bf st D q->(ts.length<=p->ts.length+mo.toList.length<=p+1)->Bf false (D+1) (.list ((Eh ts p).set p q) (E8 ts.length ns mo p)):=fun {d0 D ts ns} h1 h2 h3 h4 h5=>by
  have e:((Eh ts p).set p q).length=max ts.length (p+1):=by rw[List.length_set,PK]
  exact .list (by exact qW ‹_› ‹_› ‹_› (by rfl)) (by rw[e];exact Pg h2 hmo h5) (fun h=>by cases h) (Ol (Rh h3) h4.weak)
 cases ht with
 | null=>cases h;exact .null
 | @list d0 ts ns hx hn hs hts=>
  cases h
  exact(go (d0:=0) (D:=max d0 m') hx hn (fun t ht=>(hts t ht).weak.le (by exact Nat.le_max_left _ _)) (hq.le (by exact Nat.le_max_right _ _)) hl).le (by exact Nat.le_of_eq (Nat.succ_max_succ _ _).symm)
 | @atom _ k xs ns hk hx hn hi=>
  cases hq with
  | null=>cases h
  | @atom _ kq ys nq hkq hys hnq hiq=>
   rcases ys with _ | ⟨y,_ | ⟨y2,r⟩⟩
   .cases h
   .cases h
    have hl:xs.length<=p->xs.length+mo.toList.length<=p+1:=hl
    have e:((Hp (D4 k kq) (xs.map (one k (D4 k kq))) p).set p (one kq (D4 k kq) y)).length=max xs.length (p+1):=by rw[List.length_set,RL,List.length_map]
    refine .atom Nr (by exact qW ‹_› ‹_› ‹_› (by rfl)) (by rw[e];exact Pg hn hmo hl) ⟨?_,fun h=>by cases h⟩
    rw[List.all_eq_true]
    have hv:∀x ∈ xs,Ve x=true:=List.all_eq_true.mp hi.1
    have hm:∀x ∈ xs.map (one k (D4 k kq)),Ve x=true:=fun x hx=>by
     obtain⟨z,hz,rfl⟩:=List.mem_map.mp hx
     exact R5 (hv z hz)
    refine Ol (P:=fun x=>Ve x=true) (fun x hx=> ?_) (R5 (List.all_eq_true.mp hiq.1 y (.head _)))
    unfold Hp at hx;split at hx
    .rcases List.mem_append.mp hx with h1 | h1
     .exact hm x h1
     .rw [List.eq_of_mem_replicate h1]
      rcases(Nr:Ka (D4 k kq))with h | h<;>rw[h]<;>rfl
    .exact hm x hx
   .cases h
  | @list d1 us nq hus hnq hs5 hts=>
   rcases us with _ | ⟨u,_ | ⟨u2,r⟩⟩
   .cases h
   .cases h
    have g:=go (d0:=0) (D:=d1+1) (ts:=xs.map fun x=> .atom k [x] none) (ns:=ns) (by rw[List.length_map];exact hx) (by rw[List.length_map];exact hn) (fun t ht=>by
     obtain⟨z,hz,rfl⟩:=List.mem_map.mp ht
     exact .atom hk (by simp) I3 ⟨by rw[List.all_cons,List.all_eq_true.mp hi.1 z hz];rfl,fun h=>by cases h⟩) (Bf.le (.list hus hnq hs5 hts) (by exact Nat.le_refl _)) (by rw[List.length_map];exact hl)
    rw[List.length_map]at g
    exact g.le (by exact Nat.le_max_right _ _)
   .cases h
theorem FF(ht:Bf true m t)(hq:Bf st m' q)(A3:CO key)(hnum:∀i,key=.num i->i<=7)(h:Cf t key q=.ok r):Bf false (max m (m'+1)) r:=by
 have hl4:t.len<=4:=by
  cases ht with
  | null=>exact Nat.zero_le _
  | atom _ _ _ hi=>exact(hi.2 rfl).1
  | list _ _ hs=>exact hs rfl
 have hmo:∀j,Bv key=some j->12<=j/\j < 18:=fun j e=>by
  cases key with
  | nm k=>cases e;exact A3
  | _=>cases e
 have hn:∀l,t.names=some l->l.length=t.len:=fun l e=>by
  cases ht with
  | null=>cases e
  | atom _ _ hn=>exact(hn l e).2
  | list _ hn=>exact(hn l e).2
 unfold Cf at h
 cases hp:AP t.names true key with
 | error c=>rw[hp]at h;cases h
 | ok pl=>
  rw[hp]at h
  have h:Ll t q (Bv key) pl=.ok r:=h
  cases pl with
  | na=>cases h
  | no=>
   have hml:(Bv key).toList.length<=1:=by cases key<;>simp[Bv]
   have put:Dj t t.len (Bv key) q=.ok r->Bf false (max m (m'+1)) r:=fun h=>Mn ht hq (by exact zz ‹_› (by rfl)) hmo (fun J=>by exact Nat.add_le_add_left ‹_› _) h
   cases t with
   | null=>exact put h
   | atom=>exact put h
   | list ts ns=>cases q with
    | null=>cases h;exact ht.weak.le (by exact Nat.le_max_left _ _)
    | atom=>exact put h
    | list=>exact put h
  | «at» i=>
   have hi:i<=6:=by
    cases key with
    | na=>cases hp
    | nm j=>
     have e:E4 t.names j true=.at i:=Except.ok.inj hp
     cases Dn:t.names with
     | none=>rw[Dn]at e;cases e
     | some l=>
      rw[Dn]at e
      by_cases h16:j=16
      .subst h16;cases e
      .cases hx:l.findIdx? (DM j)with
       | none=>rw[GQ h16 hx]at e;cases e
       | some j'=>
        rw[G0 h16 hx]at e
        cases e
        have:=(List.findIdx?_eq_some_iff_getElem.mp hx).1
        have:=hn l Dn
        exact qU ‹_› ‹_› ‹_› (by rfl)
    | num n=>cases n with
     | zero=>cases hp
     | succ n=>cases hp;have:=hnum _ rfl;exact Nat.le_of_lt_succ ‹_›
   have put:Dj t i none q=.ok r->Bf false (max m (m'+1)) r:=fun h=>Mn (mo:=none) ht hq hi (fun j h=>by cases h) (fun h=>Nat.le_succ_of_le h) h
   cases t with
   | null=>exact put h
   | atom=>exact put h
   | list ts ns=>cases q with
    | null=>
     have h:(if ts.length<=i then Except.ok (Aj.list ts ns)else .ok (.list (ts.eraseIdx i) (ns.map (·.eraseIdx i))))=.ok r:=h
     split at h
     .cases h;exact ht.weak.le (by exact Nat.le_max_left _ _)
     .cases h
      cases ht with
      | @list d0 _ _ hx hn hs hts=>
       refine Bf.le (n:=d0+1) (.list (by rw[List.length_eraseIdx];split<;>omega) ?_ (fun h=>by cases h) fun t ht=>(hts t (List.mem_of_mem_eraseIdx ht)).weak) (by exact Nat.le_max_left _ _)
       intro l e
       cases ns with
       | none=>cases e
       | some l0=>
        cases e
        refine⟨List.all_eq_true.mpr fun x hx=>List.all_eq_true.mp (hn l0 rfl).1 x (List.mem_of_mem_eraseIdx hx),?_⟩
        rw[List.length_eraseIdx,List.length_eraseIdx,(hn l0 rfl).2]
    | atom=>exact put h
    | list=>exact put h
theorem II(ht:Bf true m t)(hq:Bf st m' q)(A3:CO key)(hnum:∀i,key=.num i->i<=7)(h:BQ t key q=.ok r):Bf false (max m (m'+1)) r:=by
 have l0:Bf true 1 (.list [] none):= .list (by decide) E1 (fun J=>by decide) (fun t h=>by cases h)
 have a0:∀{k},Ka k->Bf true 1 (.atom k [] none):=fun h=> .atom h (by decide) E1 ⟨rfl,fun J=>⟨by decide,fun J x h=>by cases h⟩⟩
 cases t with
 | list ts ns=>exact(FF ht hq A3 hnum h).le (by exact Nat.le_refl _)
 | atom k xs ns=>exact(FF ht hq A3 hnum h).le (by exact Nat.le_refl _)
 | null=>cases q with
  | null=>cases h;exact .null
  | list=>exact(FF l0 hq A3 hnum h).le (by exact Nat.le_max_right _ _)
  | atom kq ys nq=>
   have hkq:Ka kq:=by cases hq;assumption
   rcases ys with _ | ⟨y,_ | ⟨y2,r⟩⟩
   .exact (FF l0 hq A3 hnum h).le (by exact Nat.le_max_right _ _)
   .exact (FF (a0 hkq) hq A3 hnum h).le (by exact Nat.le_max_right _ _)
   .exact (FF l0 hq A3 hnum h).le (by exact Nat.le_max_right _ _)
end
section
variable{k n f:Nat}{xs:List TV}{ns:Option (List TV)}{x:TV}{st:Bool}{t:Aj}
theorem G1{n:Nat}:∀{xs:List TV} {f:Nat},(∀x ∈ xs,∀g,n<=g->Mx g x=true)->n+xs.length+1<=f->Nw f xs=true
 | [],f+1,_,_=>rfl
 | x::xs,f+1,h,hf=>(P8 _ _).mpr ⟨h x (.head _) f (by simp only [List.length_cons]at hf;exact Nat.le_trans (Nat.le_add_right _ _) (Nat.le_of_succ_le_succ ‹_›)),G1 (fun y hy=>h y (.tail _ hy)) (by simp only [List.length_cons]at hf;exact Nat.le_of_lt_succ ‹_›)⟩
theorem Wh{v:V}(h:Vp v=true):∀g,1<=g->Mx g (.s v)=true:=fun g hg=>by
 obtain⟨g,rfl⟩:∃g',g=g'+1:=⟨g - 1,by exact qF ‹_› (by rfl)⟩
 exact h
theorem QK(h:Ve x=true):∀g,1<=g->Mx g x=true:=by
 cases x with
 | s v=>exact Wh h
 | n=>cases h
 | u=>cases h
theorem Zw(h:Ee x=true):Ve x=true:=by
 cases x with
 | s v=>cases v<;>first | rfl | cases h
 | n=>cases h
 | u=>cases h
theorem WF{g:Nat}(h:Nw g xs=true):Mx (g+1) (.n .lst xs)=true:=h
theorem O3(h:∀l,ns=some l->l.all Ee=true/\l.length<=8):∀g,16<=g->Mx g (Ev ns)=true:=fun g hg=>by
 obtain⟨g,rfl⟩:∃g',g=g'+7:=⟨g - 7,by exact qF ‹_› (by rfl)⟩
 cases ns with
 | none=>rfl
 | some l=>
  obtain⟨h1,h2⟩:=h l rfl
  have e:=G1 (n:=1) (xs:=l) (f:=g+2) (fun x hx=>QK (Zw (List.all_eq_true.mp h1 x hx))) (by exact gK ‹_› ‹_› (by rfl))
  show(true&&(Nw (g+2) l&&_))=true
  rw[e];rfl
theorem V5{g:Nat}(h1:Mx (g+6) (.n .lst xs)=true)(h2:Mx (g+5) (Ev ns)=true):Mx (g+9) (.n .tup [.s (.w k),.n .lst xs,Ev ns])=true:=by
 show(true&&(Mx (g+6) (.n .lst xs)&&(Mx (g+5) (Ev ns)&&_)))=true
 rw[h1,h2];rfl
theorem LS(h:Bf st n t):∀g,13 * n+20<=g->Mx g t.w=true:=by
 induction h with
 | null=>exact fun g hg=>Wh rfl g (by exact qA ‹_› (by rfl))
 | @atom d k xs ns hk hx hn hi=>
  intro g hg
  obtain⟨g,rfl⟩:∃g',g=g'+9:=⟨g - 9,by exact qE ‹_› (by rfl)⟩
  exact V5 (WF (G1 (n:=1) (fun x hx=>QK (List.all_eq_true.mp hi.1 x hx)) (by exact qC ‹_› ‹_› (by rfl)))) (O3 (fun l e=>⟨(hn l e).1,by rw[(hn l e).2];exact hx⟩) _ (by exact qB ‹_› (by rfl)))
 | @list d ts ns hx hn hs hts ih=>
  intro g hg
  obtain⟨g,rfl⟩:∃g',g=g'+9:=⟨g - 9,by exact qE ‹_› (by rfl)⟩
  refine V5 (WF (G1 (n:=13 * d+20) ?_ (by rw[Dy];exact h2 ‹_› ‹_›))) (O3 (fun l e=>⟨(hn l e).1,by rw[(hn l e).2];exact hx⟩) _ (by exact qB ‹_› (by rfl)))
  rw[Ea]
  intro x hx g hg
  obtain⟨t,ht,rfl⟩:=List.mem_map.mp hx
  exact ih t ht g hg
theorem F6{r:Except Nat Aj}(h:∀t,r=.ok t->∃n,n<=3/\Bf st n t):Mx 64 (Ij r)=true:=by
 cases r with
 | error e=>rfl
 | ok t=>obtain⟨n,hn,h⟩:=h t rfl;exact LS h 64 (by exact Nat.le_trans (Nat.add_le_add_right (Nat.mul_le_mul_left _ ‹_›) _) (Nat.le_of_ble_eq_true (by rfl)))
end
section
variable{Aa:List Int}{d k n:Nat}{c:LC}
noncomputable abbrev BV(r:List Int):List TV:=r.map fun i=> .s (.int i)
noncomputable abbrev eQ:List (MS Fn):=[.ifs (.cmp .gt (.O 3) (.cst (.int 0))) [.ex (.append (.O 1) (.bin .mod (.O 3) (.cst (.int 1024)))),.asg 3 (.bin .fdiv (.O 3) (.cst (.int 1024)))] []]
theorem Nv{e0 e2:Option LV}:∀(zs:List TV) (r:List Int) (v:Int) (e4:Option LV),r.length+zs.length<=4000->∃r' v' e4',r'.length<=r.length+zs.length/\DL (Ak (CS Aa d) eQ) 4 zs [e0,some (.r 0),e2,some (il v),e4] [.lst false (BV r),c] (.ok ([e0,some (.r 0),e2,some (il v'),e4'],none) [.lst false (BV r'),c])
 | [],r,v,e4,_=>⟨r,v,e4,Nat.le_refl _,.nil⟩
 | z::zs,r,v,e4,h=>by
  by_cases hv:0 < v
  .have e:(r++[v % 1024]).length=r.length+1:=by rw[C2];rfl
   obtain⟨r',v',e4',h1,g⟩:=Nv zs (r++[v % 1024]) (v / 1024) (some (.f z)) (by rw[e];simp only [List.length_cons]at h;omega)
   have x:TS Aa d eQ [e0,some (.r 0),e2,some (il v),some (.f z)] [.lst false (BV r),c] (.ok ([e0,some (.r 0),e2,some (il (v / 1024)),some (.f z)],none) [.lst false (BV (r++[v % 1024])),c]):=by
    have hl:(BV r).length < 5000:=by rw[List.length_map];simp only [List.length_cons]at h;exact qQ ‹_› (by rfl)
    unfold BV
    rw[List.map_append]
    exact QS (.b .z) fun q=>q hv (by decide) rfl hl rfl
   exact⟨r',v',e4',by rw[e]at h1;simp only [List.length_cons];exact qO ‹_›,.next x g⟩
  .obtain ⟨r',v',e4',h1,g⟩:=Nv zs r v (some (.f z)) (by simp only [List.length_cons]at h;omega)
   exact⟨r',v',e4',by simp only [List.length_cons];exact Nat.le_succ_of_le ‹_›,.next (QS (.c .z) fun q=>q hv) g⟩
noncomputable abbrev XS:List (MS Fn):=[.asg 3 (.ite (.cmp .ge (.O 2) (.cst (.int 0))) (.O 2) (.bin .sub (.cst (.int 7)) (.O 2))),.ex (.append (.O 1) (.bin .mod (.O 3) (.cst (.int 1024)))),.asg 3 (.bin .fdiv (.O 3) (.cst (.int 1024))),.forN 4 (.cst (.int 30)) eQ]
theorem OY{e0:Option LV}:∀(zs:List Int) (r:List Int) (e2 e3 e4:Option LV),r.length+31 * zs.length<=4000->∃r' e2' e3' e4',DL (Ak (CS Aa d) XS) 2 (BV zs) [e0,some (.r 0),e2,e3,e4] [.lst false (BV r),c] (.ok ([e0,some (.r 0),e2',e3',e4'],none) [.lst false (BV r'),c])
 | [],r,e2,e3,e4,_=>⟨r,e2,e3,e4,.nil⟩
 | z::zs,r,e2,e3,e4,h=>by
  have go:∀v:Int,(∀{out},(TS Aa d (XS.drop 1) [e0,some (.r 0),some (il z),some (il v),e4] [.lst false (BV r),c] out->TS Aa d XS [e0,some (.r 0),some (il z),e3,e4] [.lst false (BV r),c] out))->∃r' e2' e3' e4',DL (Ak (CS Aa d) XS) 2 (BV (z::zs)) [e0,some (.r 0),e2,e3,e4] [.lst false (BV r),c] (.ok ([e0,some (.r 0),e2',e3',e4'],none) [.lst false (BV r'),c]):=fun v hv=>by
   have l1:(r++[v % 1024]).length=r.length+1:=by rw[C2];rfl
   have l30:(DX 0 ((30:Nat):Int)).length=30:=rfl
   obtain⟨r1,v1,e1,h1,g⟩:=Nv (Aa:=Aa) (d:=d) (e0:=e0) (e2:=some (il z)) (DX 0 ((30:Nat):Int)) (r++[v % 1024]) (v / 1024) e4 (by rw[l1,l30];simp only [List.length_cons]at h;omega)
   rw[l1,l30]at h1
   have x:TS Aa d (XS.drop 1) [e0,some (.r 0),some (il z),some (il v),e4] [.lst false (BV r),c] (.ok ([e0,some (.r 0),some (il z),some (il v1),e1],none) [.lst false (BV r1),c]):=by
    have hl:(BV r).length < 5000:=by rw[List.length_map];simp only [List.length_cons]at h;exact qQ ‹_› (by rfl)
    unfold BV at g ⊢
    rw[List.map_append]at g
    exact QS .z fun q=>q (by decide) rfl hl rfl rfl (by decide) g
   obtain⟨r',e2',e3',e4',g2⟩:=OY zs r1 (some (il z)) (some (il v1)) e1 (by simp only [List.length_cons]at h;omega)
   exact⟨r',e2',e3',e4',.next (hv x) g2⟩
  by_cases hz:0<=z
  .exact go z fun {out} x=>by
    have y:TS Aa d (XS.take 1) [e0,some (.r 0),some (il z),e3,e4] [.lst false (BV r),c] (.ok ([e0,some (.r 0),some (il z),some (il z),e4],none) [.lst false (BV r),c]):=QS (.b .z) fun q=>q hz
    exact y.app x
  .exact go (7 - z) fun {out} x=>by
    have y:TS Aa d (XS.take 1) [e0,some (.r 0),some (il z),e3,e4] [.lst false (BV r),c] (.ok ([e0,some (.r 0),some (il z),some (il (7 - z)),e4],none) [.lst false (BV r),c]):=QS (.c .z) fun q=>q hz
    exact y.app x
noncomputable abbrev Fk:List (MS Fn):=(prog .AZ).body
noncomputable abbrev W6(o:Option LV):AA:=[some (sv .ext),o,none,none,none,none,none,none,none,none,none,none,none,none,none,none,none,none,none]
theorem ZD:∃r r0 t0,TS Aa (d+1) (Fk.take 1) (W6 none) [] (.ok (W6 (some (.r 2)),none) [.lst false r0,.fz t0,.lst false (BV r)]):=by
 obtain⟨r,e2,e3,e4,g⟩:=OY (Aa:=Aa) (d:=d) (e0:=some (sv .ext)) (c:= .fz (.n .lst (BV (Aa.take 40)))) (Aa.take 40) [] none none none (by rw[List.length_take];simp only [List.length_nil];exact q4)
 refine⟨(r.take 160).reverse,BV r,.n .lst (BV (Aa.take 40)),?_⟩
 have e:BV (r.take 160).reverse=((BV r).take 160).reverse:=by unfold BV;rw[List.map_reverse,List.map_take]
 rw[e]
 exact QS .z fun q=>q rfl rfl g (BK rfl)
noncomputable abbrev Ow(t q:Aj):AA:=[some (sv .ext),some (.r 2),some (.f t.v),some (.f q.v),some (.f t.w),some (.f q.w),some (il (t.len:Int)),none,none,none,none,none,none,none,none,none,none,none,none]
noncomputable abbrev Yl(r0:List TV)(t0:TV)(r:List Int):List LC:=[.lst false r0,.fz t0,.lst false (BV r)]
theorem YU{r0:List TV}{t0:TV}{r:List Int}:∃t q r',Bf true 2 t/\Bf true 1 q/\TS Aa (d+7) ((Fk.drop 1).take 5) (W6 (some (.r 2))) (Yl r0 t0 r) (.ok (Ow t q,none) (Yl r0 t0 r')):=by
 obtain⟨_,r1,⟨t,rfl,ht⟩,g1⟩:=Vg (Aa:=Aa) (d:=d) r
 obtain⟨_,r2,⟨q,rfl,hq⟩,g2⟩:=Wi (Aa:=Aa) (d:=d+1) r1
 have v1:=Hf (Aa:=Aa) (d:=d+2) 2 ht
 have v2:=Hf (Aa:=Aa) (d:=d+3) 1 hq
 refine⟨t,q,r2,ht,hq,?_⟩
 cases t with
 | null=>exact QS .z fun q=>q g1 g2 v1 v2
 | atom k xs ns=>exact QS .z fun q=>q g1 g2 v1 v2
 | list ts ns=>
  have e:(Aj.list ts ns).len=(Aj.ws ts).length:=Dy.symm
  unfold Ow
  rw[e]
  exact QS .z fun q=>q g1 g2 v1 v2
end
section
variable{Aa:List Int}{d k n m m':Nat}{t q r:Aj}{key:El}{st exact:Bool}{r0:List TV}{t0:TV}{rr:List Int}{x5:List TV}{y5:TV}
theorem FC(ht:Bf st m t)(h:BY t key exact=.ok r):Bf false m r:=by
 cases ht with
 | null=>cases h;exact .null
 | @atom _ k xs ns hk hx hn hi=>
  have h:(AP ns exact key).bind (Mv (.atom k xs ns))=.ok r:=h
  cases hp:AP ns exact key with
  | error c=>rw[hp]at h;cases h
  | ok pl=>
   rw[hp]at h
   have h:Mv (.atom k xs ns) pl=.ok r:=h
   cases pl with
   | na=>cases h;exact .atom hk (by decide) I3 ⟨rfl,fun h=>by cases h⟩
   | no=>cases h
   | «at» i=>
    have h:(match xs[i]? with | none=> .error 28 | some x=> .ok (Aj.atom k [x] none))=Except.ok r:=h
    cases hx:xs[i]? with
    | none=>rw[hx]at h;cases h
    | some x=>
     rw[hx]at h;cases h
     exact .atom hk (by simp) I3 ⟨by rw[List.all_cons,List.all_eq_true.mp hi.1 x (List.mem_of_getElem? hx)];rfl,fun h=>by cases h⟩
 | @list d0 ts ns hx hn hs hts=>
  have h:(AP ns exact key).bind (Mv (.list ts ns))=.ok r:=h
  cases hp:AP ns exact key with
  | error c=>rw[hp]at h;cases h
  | ok pl=>
   rw[hp]at h
   have h:Mv (.list ts ns) pl=.ok r:=h
   cases pl with
   | na=>cases h;exact .null
   | no=>cases h;exact .null
   | «at» i=>
    have h:(match ts[i]? with | none=> .error 28 | some x=> .ok x)=Except.ok r:=h
    cases hx:ts[i]? with
    | none=>rw[hx]at h;cases h
    | some x=>rw[hx]at h;cases h;exact(hts _ (List.mem_of_getElem? hx)).weak.le (by exact Nat.le_succ _)
noncomputable abbrev A4(r0:List TV)(t0:TV)(r:List Int)(x:List TV)(y:TV):List LC:=[.lst false r0,.fz t0,.lst false (BV r),.lst false x,.fz y]
noncomputable abbrev Er(t q:Aj)(key:El)(o8 o9:Option LV):AA:=[some (sv .ext),some (.r 2),some (.f t.v),some (.f q.v),some (.f t.w),some (.f q.w),some (il (t.len:Int)),some (.f (Ca key)),o8,o9,none,none,none,none,none,none,none,none,none]
noncomputable abbrev PO:List (MS Fn):=[.asg 8 (.call .Cn [.O 7]),.forE 9 (.lst [.cst (.bool true),.cst (.bool false)]) [.ifs (.cmp .ne (.call .AV [.kept (.call .Bd [.O 2,.lst [.O 8],.O 9])]) (.call .A7 [.O 4,.O 7,.O 9])) [.bad] []],.ifs (.cmp .ne (.call .AV [.kept (.call .Ax [.O 2,.lst [.O 8],.O 3,.lst []])]) (.call .Be [.O 4,.O 7,.O 5])) [.bad] [],.ifs (.or2 (.cmp .ne (.call .AE [.O 2]) (.O 4)) (.cmp .ne (.call .AE [.O 3]) (.O 5))) [.bad] []]
noncomputable abbrev Yt:List (MS Fn):=[.ifs (.cmp .ne (.call .AV [.kept (.call .Bd [.O 2,.lst [.O 8],.O 9])]) (.call .A7 [.O 4,.O 7,.O 9])) [.bad] []]
theorem S8{c:LC}(hc:c.lo 6=true)(ht:Bf true 2 t)(A3:CO key):TS Aa (d+7) Yt (Er t q key (some (.f (Bj key))) (some (bl exact))) (A4 r0 t0 rr x5 y5++[c]) (.ok (Er t q key (some (.f (Bj key))) (some (bl exact)),none) (A4 r0 t0 rr x5 y5++[c])):=by
 have g:=U1 (Aa:=Aa) (d:=d) (exact:=exact) ht A3
 have e:=Ku (Aa:=Aa) (d:=d+4) (exact:=exact) ht A3
 have x:∃tl,TS Aa (d+7) Yt (Er t q key (some (.f (Bj key))) (some (bl exact))) (A4 r0 t0 rr x5 y5++[c]) (.ok (Er t q key (some (.f (Bj key))) (some (bl exact)),none) (A4 r0 t0 rr x5 y5++[c,.fz tl])):=by
  refine⟨.n .lst [Bj key],?_⟩
  have h:=F6 (r:=BY t key exact) fun t h=>⟨2,by decide,FC ht h⟩
  cases hr:BY t key exact with
  | ok r=>
   rw[hr]at g e h
   have s:=Dg (Aa:=Aa) (d:=d+1) (FC ht hr)
   exact QS (aa 3 (.d .z)) fun q=>q g s e rfl h
  | error m=>
   rw[hr]at g e h
   exact QS (.b (aa 2 (.d .z))) fun q=>q g Bc e rfl h
 obtain⟨tl,x⟩:=x
 exact TS.cut Aa 18 6 x (by rw[show(A4 r0 t0 rr x5 y5++[c,.fz tl]).take 6=A4 r0 t0 rr x5 y5++[c]from rfl];show(true&&(true&&(true&&(true&&(true&&(c.lo 6&&true))))))=true;rw[hc];rfl) rfl rfl (Nat.le_refl 6)
end
section
variable{Aa:List Int}{d k n m m':Nat}{t q r:Aj}{key:El}{st exact:Bool}{r0:List TV}{t0:TV}{rr:List Int}{x5:List TV}{y5:TV}
noncomputable abbrev YK:TV:= .n .lst [.s (.bool true),.s (.bool false)]
theorem TG{c:LC}(hc:c.lo 6=true)(ht:Bf true 2 t)(hq:Bf true 1 q)(A3:CO key)(hnum:∀i,key=.num i->i<=7):TS Aa (d+12) (PO.drop 2) (Er t q key (some (.f (Bj key))) (some (bl false))) (A4 r0 t0 rr x5 y5++[c]) (.ok (Er t q key (some (.f (Bj key))) (some (bl false)),none) (A4 r0 t0 rr x5 y5++[c])):=by
 have g:=R4 (Aa:=Aa) (d:=d) (notes:= .n .lst []) ht hq (.inl rfl) A3 (fun i h=>by have:=hnum i h;exact zz ‹_› (by rfl))
 have e:=Hv (Aa:=Aa) (d:=d+9) ht hq (.inl rfl) A3 (fun i h=>by have:=hnum i h;exact zz ‹_› (by rfl))
 have v1:=Hf (Aa:=Aa) (d:=d+7) 2 ht
 have v2:=Hf (Aa:=Aa) (d:=d+8) 1 hq
 have w1:=LS ht 64 (by decide)
 have w2:=LS hq 64 (by decide)
 have pk:∀r,BQ t key q=.ok r->Bf false 2 r:=fun r h=>II ht hq A3 hnum h
 have x:∃tl,tl.all (fun c=> !c.bor)=true/\TS Aa (d+12) (PO.drop 2) (Er t q key (some (.f (Bj key))) (some (bl false))) (A4 r0 t0 rr x5 y5++[c]) (.ok (Er t q key (some (.f (Bj key))) (some (bl false)),none) (A4 r0 t0 rr x5 y5++c::tl)):=by
  refine⟨[.fz (.n .lst [Bj key]),.fz (.n .lst [])],rfl,?_⟩
  have h:=F6 (r:=BQ t key q) fun t h=>⟨2,by decide,pk t h⟩
  cases hr:BQ t key q with
  | ok r=>
   rw[hr]at g e h
   have s:=Dg (Aa:=Aa) (d:=d+6) (pk r hr)
   exact QS (aa 3 (.d (.a (.d (.a (.d .z)))))) fun q=>q g s e rfl h v1 rfl w1 v2 rfl w2
  | error m=>
   rw[hr]at g e h
   exact QS (.b (aa 2 (.d (.a (.d (.a (.d .z))))))) fun q=>q g Bc e rfl h v1 rfl w1 v2 rfl w2
 obtain⟨tl,h,x⟩:=x
 exact TS.cut Aa 18 6 x (by rw[show(A4 r0 t0 rr x5 y5++c::tl).take 6=A4 r0 t0 rr x5 y5++[c]from rfl];show(true&&(true&&(true&&(true&&(true&&(c.lo 6&&true))))))=true;rw[hc];rfl) h rfl (Nat.le_refl 6)
theorem Rx{o8 o9:Option LV}(ht:Bf true 2 t)(hq:Bf true 1 q)(A3:CO key)(hnum:∀i,key=.num i->i<=7):TS Aa (d+12) PO (Er t q key o8 o9) (A4 r0 t0 rr x5 y5) (.ok (Er t q key (some (.f (Bj key))) (some (bl false)),none) (A4 r0 t0 rr x5 y5++[.fz YK])):=by
 have i0:=Q0 (Aa:=Aa) (d:=d+10) A3
 have h1:=S8 (Aa:=Aa) (d:=d+5) (q:=q) (exact:=true) (r0:=r0) (t0:=t0) (rr:=rr) (x5:=x5) (y5:=y5) (c:= .fz YK) rfl ht A3
 have h2:=S8 (Aa:=Aa) (d:=d+5) (q:=q) (exact:=false) (r0:=r0) (t0:=t0) (rr:=rr) (x5:=x5) (y5:=y5) (c:= .fz YK) rfl ht A3
 have g:DL (Ak (CS Aa (d+12)) Yt) 9 [.s (.bool true),.s (.bool false)] (Er t q key (some (.f (Bj key))) o9) (A4 r0 t0 rr x5 y5++[.fz YK]) (.ok (Er t q key (some (.f (Bj key))) (some (bl false)),none) (A4 r0 t0 rr x5 y5++[.fz YK])):= .next h1 (.next h2 .nil)
 have x:TS Aa (d+12) (PO.take 2) (Er t q key o8 o9) (A4 r0 t0 rr x5 y5) (.ok (Er t q key (some (.f (Bj key))) (some (bl false)),none) (A4 r0 t0 rr x5 y5++[.fz YK])):=QS .z fun q=>q i0 g
 exact x.app (TG rfl ht hq A3 hnum)
theorem Kp{o8 o9:Option LV}(ht:Bf true 2 t)(hq:Bf true 1 q)(A3:CO key)(hnum:∀i,key=.num i->i<=7):TS Aa (d+12) PO (Er t q key o8 o9) (A4 r0 t0 rr x5 y5) (.ok (Er t q key (some (.f (Bj key))) (some (bl false)),none) (A4 r0 t0 rr x5 y5)):=
 TS.cut Aa 18 5 (Rx ht hq A3 hnum) rfl rfl rfl (Nat.le_refl 5)
end
section
variable{Aa:List Int}{d k n m m':Nat}{t q r:Aj}{key:El}{st exact:Bool}{r0:List TV}{t0:TV}{rr:List Int}{x5:List TV}{y5:TV}
noncomputable def Oi(j:Nat):Nat:=match j with | 0=>12 | 1=>14 | 2=>13 | 3=>17 | _=>16
noncomputable abbrev KP:List TV:=[.s (.w 12),.s (.w 14),.s (.w 13),.s (.w 17),.s (.w 16)]
theorem Qm(j:Nat):12<=Oi j/\Oi j < 18:=by unfold Oi;split<;>decide
theorem Rm(ht:Bf true 2 t)(hq:Bf true 1 q):∃r' y,TS Aa (d+12) ((Fk.drop 6).take 1) (Ow t q) (Yl r0 t0 rr) (.ok (Er t q .na (some (.f (Bj .na))) (some (bl false)),none) (A4 r0 t0 r' KP y)):=by
 have hl4:t.len<=4:=by
  cases ht with
  | null=>exact Nat.zero_le _
  | atom _ _ _ hi=>exact(hi.2 rfl).1
  | list _ _ hs=>exact hs rfl
 obtain⟨i1,j1,r1,hj1,hm1,g1⟩:=Bi (Aa:=Aa) (d:=d+11) (t.len+3) (by exact f8) rr
 obtain⟨i2,j2,r2,hj2,hm2,g2⟩:=Bi (Aa:=Aa) (d:=d+11) 5 (by decide) r1
 have hx:KP[j2]? =some (.s (.w (Oi j2))):=by
  rcases(fO hj2)with rfl | rfl | rfl | rfl | rfl<;>rfl
 have hm1:i1 % ((t.len:Int)+3)=(j1:Int):=hm1
 have p1:0 < (t.len:Int)+3:=by exact qG (Nat.succ_pos _)
 have b1:=Kp (Aa:=Aa) (d:=d) (r0:=r0) (t0:=t0) (rr:=r2) (x5:=KP) (y5:= .n .lst [Ca (.num j1),Ca (.nm (Oi j2)),Ca .na]) (key:= .num j1) (o8:=none) (o9:=none) ht hq trivial (fun i h=>by cases h;exact qX ‹_› ‹_› (by rfl))
 have b2:=Kp (Aa:=Aa) (d:=d) (r0:=r0) (t0:=t0) (rr:=r2) (x5:=KP) (y5:= .n .lst [Ca (.num j1),Ca (.nm (Oi j2)),Ca .na]) (key:= .nm (Oi j2)) (o8:=some (.f (Bj (.num j1)))) (o9:=some (bl false)) ht hq (Qm j2) (fun i h=>by cases h)
 have b3:=Kp (Aa:=Aa) (d:=d) (r0:=r0) (t0:=t0) (rr:=r2) (x5:=KP) (y5:= .n .lst [Ca (.num j1),Ca (.nm (Oi j2)),Ca .na]) (key:= .na) (o8:=some (.f (Bj (.nm (Oi j2))))) (o9:=some (bl false)) ht hq trivial (fun i h=>by cases h)
 have g:DL (Ak (CS Aa (d+12)) PO) 7 [Ca (.num j1),Ca (.nm (Oi j2)),Ca .na] (Ow t q) (A4 r0 t0 r2 KP (.n .lst [Ca (.num j1),Ca (.nm (Oi j2)),Ca .na])) (.ok (Er t q .na (some (.f (Bj .na))) (some (bl false)),none) (A4 r0 t0 r2 KP (.n .lst [Ca (.num j1),Ca (.nm (Oi j2)),Ca .na]))):= .next b1 (.next b2 (.next b3 .nil))
 exact⟨r2,_,QS (aa 2 (.b .z)) fun q=>q g1 p1 hm1 g2 (show(0:Int) < 5 from by decide) hm2 hx g⟩
end
section
variable{Aa:List Int}{d k n m m':Nat}{t q r:Aj}{key:El}{st exact:Bool}{r0:List TV}{t0:TV}{rr:List Int}{x5:List TV}{y5:TV}
noncomputable abbrev Zk:List TV:=[.s (.w 12),.s (.w 14),.s (.w 13),.s (.w 17)]
noncomputable abbrev Gx(t q:Aj)(k:Nat)(o11 o12 o13 o14:Option LV):AA:=[some (sv .ext),some (.r 2),some (.f t.v),some (.f q.v),some (.f t.w),some (.f q.w),some (il (t.len:Int)),some (.f (Ca .na)),some (.f (Bj .na)),some (bl false),some (sv (.w k)),o11,o12,o13,o14,none,none,none,none]
theorem Ta:∃k r',(12<=k/\k < 18)/\TS Aa (d+12) ((Fk.drop 7).take 1) (Er t q .na (some (.f (Bj .na))) (some (bl false))) (A4 r0 t0 rr x5 y5) (.ok (Gx t q k none none none none,none) (A4 r0 t0 r' x5 y5)):=by
 obtain⟨i1,j1,r1,hj1,hm1,g1⟩:=Bi (Aa:=Aa) (d:=d+11) 4 (by decide) rr
 have hx:Zk[j1]? =some (.s (.w (Oi j1))):=by
  rcases(bI hj1)with rfl | rfl | rfl | rfl<;>rfl
 have x:TS Aa (d+12) ((Fk.drop 7).take 1) (Er t q .na (some (.f (Bj .na))) (some (bl false))) (A4 r0 t0 rr x5 y5) (.ok (Gx t q (Oi j1) none none none none,none) (A4 r0 t0 r1 x5 y5++[.lst false Zk])):=QS (.a (.b .z)) fun q=>q g1 (show(0:Int) < 4 from by decide) hm1 hx
 exact⟨Oi j1,r1,Qm j1,TS.cut Aa 18 5 x rfl rfl rfl (Nat.le_refl 5)⟩
end
section
variable{Aa:List Int}{d k n m m':Nat}{t q r:Aj}{key:El}{st exact:Bool}{r0:List TV}{t0:TV}{rr:List Int}{x5:List TV}{y5:TV}
theorem TT(ht:Bf true 2 t)(hk:12<=k/\k < 18):∃x,TS Aa (d+12) ((Fk.drop 8).take 2) (Gx t q k none none none none) (A4 r0 t0 rr x5 y5) (.ok (Gx t q k (some (.f x)) none none none,none) (A4 r0 t0 rr x5 y5)):=by
 have g:=C5 (Aa:=Aa) (d:=d+6) ht hk
 have e:=Ku (Aa:=Aa) (d:=d+9) (key:= .nm k) (exact:=false) ht hk
 cases t with
 | null=>
  have s:=Dg (Aa:=Aa) (d:=d+6) (t:= .null) (st:=false) (n:=2) .null
  exact⟨Aj.null.v,QS (aa 4 (.d .z)) fun q=>q g s e rfl (LS (st:=false) (n:=2) .null 64 (by decide))⟩
 | atom k xs ns=>
  have hk:Ka k:=by cases ht;assumption
  refine⟨.s (.w 30),?_⟩
  rcases hk with rfl | rfl<;>exact QS (.b .z) fun q=>q g
 | list ts ns=>
  have Ls:∀r,BY (.list ts ns) (.nm k) false=.ok r->Bf false 2 r:=fun r h=>FC ht h
  have h:=F6 (r:=BY (.list ts ns) (.nm k) false) fun t h=>⟨2,by decide,Ls t h⟩
  have g:FP Aa (d+12) .C5 [(Aj.list ts ns).v,.s (.w k)] ((BY (.list ts ns) (.nm k) false).map Aj.v):=g
  cases hr:BY (.list ts ns) (.nm k) false with
  | ok r=>
   rw[hr]at g e h
   have s:=Dg (Aa:=Aa) (d:=d+6) (Ls r hr)
   exact⟨r.v,QS (aa 6 (.d .z)) fun q=>q g s e rfl h⟩
  | error c=>
   rw[hr]at g e h
   exact⟨.s (.w c),QS (.b (aa 5 (.d .z))) fun q=>q g Bc e rfl h⟩
end
section
variable{Aa:List Int}{d k n m m':Nat}{t q r:Aj}{key:El}{st exact:Bool}{r0:List TV}{t0:TV}{rr:List Int}{x5:List TV}{y5 x:TV}
noncomputable abbrev eI(A:Bool)(due:List TV):List LC:=match A with | true=>[.fz (.n .lst []),.fz (.n (.dct []) []),.lst false due] | false=>[.lst false due]
noncomputable def jA(A:Bool):Nat:=match A with | true=>8 | false=>6
theorem R0(ht:Bf true 2 t):∃A,TS Aa (d+12) ((Fk.drop 10).take 4) (Gx t q k (some (.f x)) none none none) (A4 r0 t0 rr x5 y5) (.ok (Gx t q k (some (.f x)) (some (.r 5)) (some (.f (Dr t).w)) (some (.r (jA A))),none) (A4 r0 t0 rr x5 y5++ .lst false []::eI A (NW t))):=by
 cases ht with
 | null=>exact⟨true,QS .z fun q=>q⟩
 | @list _ ts ns=>exact⟨false,QS .z fun q=>q⟩
 | @atom _ k xs ns hk hx hn hi=>
  have f:=Ot (Aa:=Aa) (d:=d+11) (k:=k) (ns:=ns) hx
  cases xs with
  | nil=>rcases hk with rfl | rfl<;>exact⟨false,QS .z fun q=>q f⟩
  | cons y r=>
   have e:(0:Int) < ((y::r).length:Int):=by simp only [List.length_cons];exact qG (Nat.succ_pos _)
   rcases hk with rfl | rfl<;>exact⟨false,QS (aa 7 (.b .z)) fun q=>q f e⟩
theorem WP(A:Bool)(ht:Bf true 2 t)(hq:Bf true 1 q)(hk:12<=k/\k < 18):TS Aa (d+12) ((Fk.drop 14).take 1) (Gx t q k (some (.f x)) (some (.r 5)) (some (.f (Dr t).w)) (some (.r (jA A)))) (A4 r0 t0 rr x5 y5++ .lst false []::eI A (NW t)) (.ok (Gx t q k (some (.f x)) (some (.r 5)) (some (.f (Dr t).w)) (some (.r (jA A))),none) (A4 r0 t0 rr x5 y5++ .lst false (NW t)::eI A (NW t))):=by
 have g:=P6 (Aa:=Aa) (d:=d+1) ht hq hk
 have e:=Hv (Aa:=Aa) (d:=d+9) (key:= .nm k) (KK ht) hq (.inl rfl) hk (fun i h=>by cases h)
 have pk:∀r,BQ (Dr t) (.nm k) q=.ok r->Bf false 3 r:=fun r h=>II (key:= .nm k) (KK ht) hq hk (fun i h=>by cases h) h
 have h:=F6 (r:=BQ (Dr t) (.nm k) q) fun t h=>⟨3,by decide,pk t h⟩
 have du:Mx 64 (.n .lst (NW t))=true:=by
  cases t with
  | atom k xs ns=>cases xs<;>rfl
  | null=>rfl
  | list=>rfl
 cases hr:BQ (Dr t) (.nm k) q with
 | ok r=>
  rw[hr]at g e h
  have s:=Dg (Aa:=Aa) (d:=d+5) (pk r hr)
  cases A<;>exact QS (aa 3 (.d (.d .z))) fun q=>q g s e rfl h rfl du
 | error c=>
  rw[hr]at g e h
  cases A<;>exact QS (.b (aa 2 (.d (.d .z)))) fun q=>q g Bc e rfl h rfl du
end
section
variable{Aa:List Int}{d k n m m':Nat}{t q r:Aj}{key:El}{st exact:Bool}{r0:List TV}{t0:TV}{rr:List Int}{x5:List TV}{y5 x:TV}
theorem Vd(ht:Bf true 2 t)(hq:Bf true 1 q):∃k x r',(12<=k/\k < 18)/\TS Aa (d+12) ((Fk.drop 7).take 8) (Er t q .na (some (.f (Bj .na))) (some (bl false))) (A4 r0 t0 rr x5 y5) (.ok (Gx t q k (some (.f x)) none (some (.f (Dr t).w)) none,none) (A4 r0 t0 r' x5 y5)):=by
 obtain⟨k,r',hk,h1⟩:=Ta (Aa:=Aa) (d:=d) (t:=t) (q:=q) (r0:=r0) (t0:=t0) (rr:=rr) (x5:=x5) (y5:=y5)
 obtain⟨x,h2⟩:=TT (Aa:=Aa) (d:=d) (q:=q) (r0:=r0) (t0:=t0) (rr:=r') (x5:=x5) (y5:=y5) ht hk
 obtain⟨A,h3⟩:=R0 (Aa:=Aa) (d:=d) (q:=q) (k:=k) (x:=x) (r0:=r0) (t0:=t0) (rr:=r') (x5:=x5) (y5:=y5) ht
 have h4:=WP (Aa:=Aa) (d:=d) (x:=x) (r0:=r0) (t0:=t0) (rr:=r') (x5:=x5) (y5:=y5) A ht hq hk
 refine⟨k,x,r',hk,?_⟩
 have h:=h1.app (h2.app (h3.app h4))
 cases A
 .exact TS.cut Aa 14 5 (TS.cut Aa 12 7 h rfl rfl rfl (BK rfl)) rfl rfl rfl (BK rfl)
 .exact TS.cut Aa 14 5 (TS.cut Aa 12 9 h rfl rfl rfl (BK rfl)) rfl rfl rfl (BK rfl)
end
section
variable{Aa:List Int}{d k n m m' i j:Nat}{t q r u:Aj}{ts:List Aj}{ns:Option (List TV)}{r0:List TV}{t0:TV}{rr:List Int}{x5:List TV}{y5 x b:TV}
theorem TU(ht:Bf true 2 t)(h:∀ts ns,t=.list ts ns->ts=[]):TS Aa (d+13) ((Fk.drop 15).take 1) (Gx t q k (some (.f x)) none (some (.f b)) none) (A4 r0 t0 rr x5 y5) (.ok (Gx t q k (some (.f x)) none (some (.f b)) none,none) (A4 r0 t0 rr x5 y5)):=by
 cases ht with
 | null=>exact QS .z fun q=>q
 | @atom _ k xs ns hk hx hn hi=>rcases hk with rfl | rfl<;>exact QS .z fun q=>q
 | @list _ ts ns=>cases h ts ns rfl;exact QS .z fun q=>q
end
theorem TS.ifT{Aa:List Int}{d:Nat}{c:ME Fn}{b e:List (MS Fn)}{env:AA}{L L1:List LC}{out:Oc (AA×Option LV)}(hc:TE Aa d c env L (.ok (bl true) L1))(hb:TS Aa d b env L1 out):TS Aa d [.ifs c b e] env L out:=fun F w s r hs=>by
 have eq:Ak (CS Aa d) [.ifs c b e] s=bnd (Ac (CS Aa d) c s) (fun x=>bnd (AG x) fun y=>if y then Ak (CS Aa d) b s else Ak (CS Aa d) e s):=funext fun H=>by
  show bnd (bnd (Ac (CS Aa d) c s) (fun x=>bnd (AG x) fun y=>if y then Ak (CS Aa d) b s else Ak (CS Aa d) e s)) (fun p=>match p.2 with | some v=>ret (p.1,some v) | none=>ret (p.1,none)) H=_
  generalize bnd (Ac (CS Aa d) c s) (fun x=>bnd (AG x) fun y=>if y then Ak (CS Aa d) b s else Ak (CS Aa d) e s)=m
  unfold bnd
  cases m H with
  | ok p H1=>obtain⟨e1,o⟩:=p;cases o<;>rfl
  | exc=>rfl
  | bad=>rfl
 rw[eq]
 refine(hc F w s r hs).bnd fun w1 v n q=> ?_
 cases Rw rfl q
 exact hb F w1 s n.r (AI n.l n.p hs)
noncomputable def gO:MS Fn->List (MS Fn)
 | .ifs _ b _=>b
 | _=>[]
noncomputable abbrev Pd:List (MS Fn):=((Fk.drop 15).map gO).headD []
section
variable{Aa:List Int}{d k n m m' i j:Nat}{t q r u:Aj}{ts:List Aj}{ns:Option (List TV)}{r0:List TV}{t0:TV}{rr:List Int}{x5:List TV}{y5 x b:TV}
noncomputable abbrev F8(t q:Aj)(k:Nat)(x b:TV)(o8 o14:Option LV)(i j:Int)(o17 o18:Option LV):AA:=[some (sv .ext),some (.r 2),some (.f t.v),some (.f q.v),some (.f t.w),some (.f q.w),some (il (t.len:Int)),some (.f (Ca .na)),o8,some (bl false),some (sv (.w k)),some (.f x),none,some (.f b),o14,some (il i),some (il j),o17,o18]
theorem U9(h0:0 < ts.length):∃j1 j2 r',j1 < ts.length/\j2 < 3/\TS Aa (d+13) (Pd.take 2) (Gx (.list ts ns) q k (some (.f x)) none (some (.f b)) none) (A4 r0 t0 rr x5 y5) (.ok (F8 (.list ts ns) q k x b (some (.f (Bj .na))) none ((1+j1:Nat):Int) ((1+j2:Nat):Int) none none,none) (A4 r0 t0 r' x5 y5)):=by
 obtain⟨i1,j1,r1,hj1,hm1,g1⟩:=Bi (Aa:=Aa) (d:=d+12) ts.length h0 rr
 obtain⟨i2,j2,r2,hj2,hm2,g2⟩:=Bi (Aa:=Aa) (d:=d+12) 3 (by decide) r1
 exact⟨j1,j2,r2,hj1,hj2,QS .z fun q=>q g1 (show(0:Int) < (ts.length:Int)from by exact qG ‹_›) hm1 g2 (show(0:Int) < 3 from by decide) hm2⟩
end
section
variable{Aa:List Int}{d k n m m' i j:Nat}{t q r u:Aj}{ts:List Aj}{ns:Option (List TV)}{r0:List TV}{t0:TV}{rr:List Int}{x5:List TV}{y5 x b:TV}
theorem Uz{j1 j2:Nat}(hj:j1 < 4)(hu:ts[j1]? =some u):TS Aa (d+13) ((Pd.drop 2).take 2) (F8 (.list ts ns) q k x b (some (.f (Bj .na))) none ((1+j1:Nat):Int) ((1+j2:Nat):Int) none none) (A4 r0 t0 rr x5 y5) (.ok (F8 (.list ts ns) q k x b (some (.f (FO (1+j1) (1+j2)))) none ((1+j1:Nat):Int) ((1+j2:Nat):Int) (some (.f u.w)) none,none) (A4 r0 t0 rr x5 y5)):=by
 have hw:(Aj.ws ts)[j1]? =some u.w:=by rw[Ea,List.getElem?_map,hu];rfl
 have y:TS Aa (d+13) ((Pd.drop 2).take 1) (F8 (.list ts ns) q k x b (some (.f (Bj .na))) none ((1+j1:Nat):Int) ((1+j2:Nat):Int) none none) (A4 r0 t0 rr x5 y5) (.ok (F8 (.list ts ns) q k x b (some (.r 6)) none ((1+j1:Nat):Int) ((1+j2:Nat):Int) none none,none) (A4 r0 t0 rr x5 y5++[.lst false [.s (.int ((1+j1:Nat):Int)),.s (.int ((1+j2:Nat):Int))],.ins .vector [(0,sv (.w 8)),(1,.r 5),(2,sv .none),(4,bl false)]])):=QS .z fun q=>q
 have f:=TS.frz (i:=8) y rfl rfl rfl rfl rfl
 refine TS.app f ?_
 rcases(bI hj)with rfl | rfl | rfl | rfl<;>exact QS (.a (.b .z)) fun q=>q hw
end
section
variable{Aa:List Int}{d k n m m' i j:Nat}{t q r u:Aj}{ts:List Aj}{ns:Option (List TV)}{r0:List TV}{t0:TV}{rr:List Int}{x5:List TV}{y5 x b:TV}
theorem Zo{j1 j2:Nat}(ht:Bf true 2 (.list ts ns))(hu:ts[j1]? =some u):TS Aa (d+13) ((Pd.drop 4).take 2) (F8 (.list ts ns) q k x b (some (.f (FO (1+j1) (1+j2)))) none ((1+j1:Nat):Int) ((1+j2:Nat):Int) (some (.f u.w)) none) (A4 r0 t0 rr x5 y5) (.ok (F8 (.list ts ns) q k x b (some (.f (FO (1+j1) (1+j2)))) none ((1+j1:Nat):Int) ((1+j2:Nat):Int) (some (.f u.w)) none,none) (A4 r0 t0 rr x5 y5)):=by
 have Ls:Bf true 2 u:=by
  cases ht with
  | list _ _ _ h=>exact(h u (List.mem_of_getElem? hu)).le (by decide)
 have g:=Uj (Aa:=Aa) (d:=d+6) (j:=1+j2) ht hu
 rw[Nat.add_comm j1 1]at g
 have e:=Ku (Aa:=Aa) (d:=d+10) (key:= .num (1+j2)) (exact:=true) Ls trivial
 have h:=F6 (r:=BY u (.num (1+j2)) true) fun t h=>⟨2,by decide,FC Ls h⟩
 cases u with
 | null=>
  have y:TS Aa (d+13) ((Pd.drop 4).take 2) (F8 (.list ts ns) q k x b (some (.f (FO (1+j1) (1+j2)))) none ((1+j1:Nat):Int) ((1+j2:Nat):Int) (some (.f Aj.null.w)) none) (A4 r0 t0 rr x5 y5) (.ok (F8 (.list ts ns) q k x b (some (.f (FO (1+j1) (1+j2)))) (some (.r 5)) ((1+j1:Nat):Int) ((1+j2:Nat):Int) (some (.f Aj.null.w)) none,none) (A4 r0 t0 rr x5 y5++[.lst false [.s (.w 11),.s (.w 28)],.fz (.n .lst [FO (1+j1) (1+j2)])])):=QS (.a (.b (.a (.d .z)))) fun q=>q g Bc rfl rfl
  exact TS.cut Aa 14 5 y rfl rfl rfl (Nat.le_refl 5)
 | atom ku xu nu=>
  have y:TS Aa (d+13) ((Pd.drop 4).take 2) (F8 (.list ts ns) q k x b (some (.f (FO (1+j1) (1+j2)))) none ((1+j1:Nat):Int) ((1+j2:Nat):Int) (some (.f (Aj.atom ku xu nu).w)) none) (A4 r0 t0 rr x5 y5) (.ok (F8 (.list ts ns) q k x b (some (.f (FO (1+j1) (1+j2)))) (some (.f (Ij (BY (Aj.atom ku xu nu) (.num (1+j2)) true)))) ((1+j1:Nat):Int) ((1+j2:Nat):Int) (some (.f (Aj.atom ku xu nu).w)) none,none) (A4 r0 t0 rr x5 y5++[.fz (.n .lst [FO (1+j1) (1+j2)])])):=by
   have g:FP Aa (d+13) .Bd [(Aj.list ts ns).v,.n .lst [FO (1+j1) (1+j2)],.s (.bool true)] ((BY (Aj.atom ku xu nu) (.num (1+j2)) true).map Aj.v):=g
   cases hr:BY (Aj.atom ku xu nu) (.num (1+j2)) true with
   | ok r=>
    rw[hr]at g e h
    have s:=Dg (Aa:=Aa) (d:=d+7) (FC Ls hr)
    exact QS (aa 4 (.d .z)) fun q=>q e g s rfl h
   | error c=>
    rw[hr]at g e h
    exact QS (.a (.a (.b (.a (.d .z))))) fun q=>q e g Bc rfl h
  exact TS.cut Aa 14 5 y rfl rfl rfl (Nat.le_refl 5)
 | list us nu=>
  have y:TS Aa (d+13) ((Pd.drop 4).take 2) (F8 (.list ts ns) q k x b (some (.f (FO (1+j1) (1+j2)))) none ((1+j1:Nat):Int) ((1+j2:Nat):Int) (some (.f (Aj.list us nu).w)) none) (A4 r0 t0 rr x5 y5) (.ok (F8 (.list ts ns) q k x b (some (.f (FO (1+j1) (1+j2)))) (some (.f (Ij (BY (Aj.list us nu) (.num (1+j2)) true)))) ((1+j1:Nat):Int) ((1+j2:Nat):Int) (some (.f (Aj.list us nu).w)) none,none) (A4 r0 t0 rr x5 y5++[.fz (.n .lst [FO (1+j1) (1+j2)])])):=by
   have g:FP Aa (d+13) .Bd [(Aj.list ts ns).v,.n .lst [FO (1+j1) (1+j2)],.s (.bool true)] ((BY (Aj.list us nu) (.num (1+j2)) true).map Aj.v):=g
   cases hr:BY (Aj.list us nu) (.num (1+j2)) true with
   | ok r=>
    rw[hr]at g e h
    have s:=Dg (Aa:=Aa) (d:=d+7) (FC Ls hr)
    exact QS (aa 4 (.d .z)) fun q=>q e g s rfl h
   | error c=>
    rw[hr]at g e h
    exact QS (.a (.a (.b (.a (.d .z))))) fun q=>q e g Bc rfl h
  exact TS.cut Aa 14 5 y rfl rfl rfl (Nat.le_refl 5)
end
section
variable{Aa:List Int}{d k n m m' i j:Nat}{t q r u:Aj}{ts:List Aj}{ns:Option (List TV)}{r0:List TV}{t0:TV}{rr:List Int}{x5:List TV}{y5 x b:TV}
noncomputable abbrev Qj(ts:List Aj)(ns:Option (List TV))(q u:Aj)(k:Nat)(x b:TV)(j1 j2:Nat)(o14 o18:Option LV):AA:=F8 (.list ts ns) q k x b (some (.f (FO (1+j1) (1+j2)))) o14 ((1+j1:Nat):Int) ((1+j2:Nat):Int) (some (.f u.w)) o18
theorem EH{p:Nat}{mo:Option Nat}(h0:t≠.null)(h:Dj t p mo q=.ok r):r≠.null:=fun e=>by
 subst e
 cases t with
 | null=>exact h0 rfl
 | list=>cases h
 | atom k xs ns=>cases q with
  | null=>cases h
  | atom k ys ns=>rcases ys with _ | ⟨y,_ | ⟨z,l⟩⟩<;>cases h
  | list ys ns=>rcases ys with _ | ⟨y,_ | ⟨z,l⟩⟩<;>cases h
theorem VB{mo:Option Nat}{pl:Pl}(h0:t≠.null)(h:Ll t q mo pl=.ok r):r≠.null:=by
 cases pl with
 | na=>cases h
 | no=>cases t with
  | null=>exact absurd rfl h0
  | atom=>exact EH h0 h
  | list=>cases q with
   | null=>cases h;intro h;cases h
   | atom=>exact EH h0 h
   | list=>exact EH h0 h
 | «at» i=>cases t with
  | null=>exact absurd rfl h0
  | atom=>exact EH h0 h
  | list ts ns=>cases q with
   | null=>
    have h:(if ts.length<=i then Except.ok (Aj.list ts ns)else .ok (.list (ts.eraseIdx i) (ns.map (·.eraseIdx i))))=.ok r:=h
    split at h<;>(cases h;intro h;cases h)
   | atom=>exact EH h0 h
   | list=>exact EH h0 h
theorem Qr{key:El}(h0:t≠.null)(h:BQ t key q=.ok r):r≠.null:=by
 have h:Cf t key q=.ok r:=by
  cases t with
  | null=>exact absurd rfl h0
  | atom=>exact h
  | list=>exact h
 unfold Cf at h
 cases hp:AP t.names true key with
 | error c=>rw[hp]at h;cases h
 | ok pl=>rw[hp]at h;exact VB h0 h
theorem XV{j1 j2:Nat}(ht:Bf true 2 (.list ts ns))(hq:Bf true 1 q)(hj1:j1 < 4)(hj2:j2 < 3)(hu:ts[j1]? =some u):∃o18,TS Aa (d+13) (Pd.drop 6) (Qj ts ns q u k x b j1 j2 none none) (A4 r0 t0 rr x5 y5) (.ok (Qj ts ns q u k x b j1 j2 none o18,none) (A4 r0 t0 rr x5 y5)):=by
 have Ls:Bf true 1 u:=by
  cases ht with
  | list _ _ _ h=>exact h u (List.mem_of_getElem? hu)
 have pk:∀r,BQ u (.num (1+j2)) q=.ok r->Bf false 2 r:=fun r h=>II (key:= .num (1+j2)) Ls hq trivial (fun i h=>by cases h;exact Uf ‹_› (by rfl)) h
 have g:=SG (Aa:=Aa) (d:=d) (notes:= .n .lst []) (j:=1+j2) ht hu hq (by exact Uf ‹_› (by rfl)) (fun r h=>⟨_,_,pk r h⟩)
 rw[Nat.add_comm j1 1]at g
 cases u with
 | null=>
  have y:TS Aa (d+13) (Pd.drop 6) (Qj ts ns q .null k x b j1 j2 none none) (A4 r0 t0 rr x5 y5) (.ok (Qj ts ns q .null k x b j1 j2 (some (.r 5)) none,none) (A4 r0 t0 rr x5 y5++[.lst false [.s (.w 11),.s (.w 36)],.fz (.n .lst [FO (1+j1) (1+j2)]),.fz (.n .lst [])])):=QS (.a (.b (.a (.d .z)))) fun q=>q g Bc rfl rfl
  exact⟨none,TS.cut Aa 14 5 y rfl rfl rfl (Nat.le_refl 5)⟩
 | atom ku xu nu=>
  have e1:=Hv (Aa:=Aa) (d:=d+10) (key:= .num (1+j2)) Ls hq (.inl rfl) trivial (fun i h=>by cases h;exact Uf ‹_› (by rfl))
  have g:FP Aa (d+13) .Ax [(Aj.list ts ns).v,.n .lst [FO (1+j1) (1+j2)],q.v,.n .lst []] (((BQ (Aj.atom ku xu nu) (.num (1+j2)) q).bind (BQ (.list ts ns) (.num (j1+1)))).map Aj.v):=g
  rw[Nat.add_comm j1 1]at g
  cases hr:BQ (Aj.atom ku xu nu) (.num (1+j2)) q with
  | error c=>
   rw[hr]at g e1
   have y:TS Aa (d+13) (Pd.drop 6) (Qj ts ns q (Aj.atom ku xu nu) k x b j1 j2 none none) (A4 r0 t0 rr x5 y5) (.ok (Qj ts ns q (Aj.atom ku xu nu) k x b j1 j2 (some (.f (Ij (.error c)))) (some (.f (Ij (.error c)))),none) (A4 r0 t0 rr x5 y5++[.lst false [.s (.w 11),.s (.w 36)],.fz (.n .lst [FO (1+j1) (1+j2)]),.fz (.n .lst [])])):=QS (.a (.a (.b (.a (.d .z))))) fun q=>q e1 g Bc rfl rfl
   exact⟨_,TS.cut Aa 14 5 y rfl rfl rfl (Nat.le_refl 5)⟩
  | ok r=>
   rw[hr]at g e1
   have hr2:=pk r hr
   have e2:=Hv (Aa:=Aa) (d:=d+10) (key:= .num (1+j1)) ht hr2 (.inr ⟨_,_,rfl⟩) trivial (fun i h=>by cases h;exact Uf ‹_› (by rfl))
   have p2:∀z,BQ (.list ts ns) (.num (1+j1)) r=.ok z->Bf false 3 z:=fun z h=>II (key:= .num (1+j1)) ht hr2 trivial (fun i h=>by cases h;exact Uf ‹_› (by rfl)) h
   have h:=F6 (r:=BQ (.list ts ns) (.num (1+j1)) r) fun t h=>⟨3,by decide,p2 t h⟩
   have g2:FP Aa (d+13) .Ax [(Aj.list ts ns).v,.n .lst [FO (1+j1) (1+j2)],q.v,.n .lst []] ((BQ (.list ts ns) (.num (1+j1)) r).map Aj.v):=g
   have hnn:=Qr (by intro h;cases h) hr
   have y:TS Aa (d+13) (Pd.drop 6) (Qj ts ns q (Aj.atom ku xu nu) k x b j1 j2 none none) (A4 r0 t0 rr x5 y5) (.ok (Qj ts ns q (Aj.atom ku xu nu) k x b j1 j2 (some (.f (Ij (BQ (.list ts ns) (.num (1+j1)) r)))) (some (.f r.w)),none) (A4 r0 t0 rr x5 y5++[.lst false [.s (.w 11),.s (.w 36)],.fz (.n .lst [FO (1+j1) (1+j2)]),.fz (.n .lst [])])):=by
    cases hz:BQ (.list ts ns) (.num (1+j1)) r with
    | ok z=>
     rw[hz]at g2 e2 h
     have s:=Dg (Aa:=Aa) (d:=d+6) (p2 z hz)
     cases r with
     | null=>exact absurd rfl hnn
     | atom=>exact QS (aa 5 (.d .z)) fun q=>q e1 e2 g2 s rfl h
     | list=>exact QS (aa 5 (.d .z)) fun q=>q e1 e2 g2 s rfl h
    | error c=>
     rw[hz]at g2 e2 h
     cases r with
     | null=>exact absurd rfl hnn
     | atom=>exact QS (aa 3 (.b (.a (.d .z)))) fun q=>q e1 e2 g2 Bc rfl h
     | list=>exact QS (aa 3 (.b (.a (.d .z)))) fun q=>q e1 e2 g2 Bc rfl h
   exact⟨_,TS.cut Aa 14 5 y rfl rfl rfl (Nat.le_refl 5)⟩
 | list us nu=>
  have e1:=Hv (Aa:=Aa) (d:=d+10) (key:= .num (1+j2)) Ls hq (.inl rfl) trivial (fun i h=>by cases h;exact Uf ‹_› (by rfl))
  have g:FP Aa (d+13) .Ax [(Aj.list ts ns).v,.n .lst [FO (1+j1) (1+j2)],q.v,.n .lst []] (((BQ (Aj.list us nu) (.num (1+j2)) q).bind (BQ (.list ts ns) (.num (j1+1)))).map Aj.v):=g
  rw[Nat.add_comm j1 1]at g
  cases hr:BQ (Aj.list us nu) (.num (1+j2)) q with
  | error c=>
   rw[hr]at g e1
   have y:TS Aa (d+13) (Pd.drop 6) (Qj ts ns q (Aj.list us nu) k x b j1 j2 none none) (A4 r0 t0 rr x5 y5) (.ok (Qj ts ns q (Aj.list us nu) k x b j1 j2 (some (.f (Ij (.error c)))) (some (.f (Ij (.error c)))),none) (A4 r0 t0 rr x5 y5++[.lst false [.s (.w 11),.s (.w 36)],.fz (.n .lst [FO (1+j1) (1+j2)]),.fz (.n .lst [])])):=QS (.a (.a (.b (.a (.d .z))))) fun q=>q e1 g Bc rfl rfl
   exact⟨_,TS.cut Aa 14 5 y rfl rfl rfl (Nat.le_refl 5)⟩
  | ok r=>
   rw[hr]at g e1
   have hr2:=pk r hr
   have e2:=Hv (Aa:=Aa) (d:=d+10) (key:= .num (1+j1)) ht hr2 (.inr ⟨_,_,rfl⟩) trivial (fun i h=>by cases h;exact Uf ‹_› (by rfl))
   have p2:∀z,BQ (.list ts ns) (.num (1+j1)) r=.ok z->Bf false 3 z:=fun z h=>II (key:= .num (1+j1)) ht hr2 trivial (fun i h=>by cases h;exact Uf ‹_› (by rfl)) h
   have h:=F6 (r:=BQ (.list ts ns) (.num (1+j1)) r) fun t h=>⟨3,by decide,p2 t h⟩
   have g2:FP Aa (d+13) .Ax [(Aj.list ts ns).v,.n .lst [FO (1+j1) (1+j2)],q.v,.n .lst []] ((BQ (.list ts ns) (.num (1+j1)) r).map Aj.v):=g
   have hnn:=Qr (by intro h;cases h) hr
   have y:TS Aa (d+13) (Pd.drop 6) (Qj ts ns q (Aj.list us nu) k x b j1 j2 none none) (A4 r0 t0 rr x5 y5) (.ok (Qj ts ns q (Aj.list us nu) k x b j1 j2 (some (.f (Ij (BQ (.list ts ns) (.num (1+j1)) r)))) (some (.f r.w)),none) (A4 r0 t0 rr x5 y5++[.lst false [.s (.w 11),.s (.w 36)],.fz (.n .lst [FO (1+j1) (1+j2)]),.fz (.n .lst [])])):=by
    cases hz:BQ (.list ts ns) (.num (1+j1)) r with
    | ok z=>
     rw[hz]at g2 e2 h
     have s:=Dg (Aa:=Aa) (d:=d+6) (p2 z hz)
     cases r with
     | null=>exact absurd rfl hnn
     | atom=>exact QS (aa 5 (.d .z)) fun q=>q e1 e2 g2 s rfl h
     | list=>exact QS (aa 5 (.d .z)) fun q=>q e1 e2 g2 s rfl h
    | error c=>
     rw[hz]at g2 e2 h
     cases r with
     | null=>exact absurd rfl hnn
     | atom=>exact QS (aa 3 (.b (.a (.d .z)))) fun q=>q e1 e2 g2 Bc rfl h
     | list=>exact QS (aa 3 (.b (.a (.d .z)))) fun q=>q e1 e2 g2 Bc rfl h
   exact⟨_,TS.cut Aa 14 5 y rfl rfl rfl (Nat.le_refl 5)⟩
end
section
variable{Aa:List Int}{d k n m m' i j:Nat}{t q r u:Aj}{ts:List Aj}{ns:Option (List TV)}{r0:List TV}{t0:TV}{rr:List Int}{x5:List TV}{y5 x b:TV}
theorem aC(ht:Bf true 2 (.list ts ns))(hq:Bf true 1 q)(h0:0 < ts.length):∃j1 j2 o8 o17 o18 r',TS Aa (d+13) ((Fk.drop 15).take 1) (Gx (.list ts ns) q k (some (.f x)) none (some (.f b)) none) (A4 r0 t0 rr x5 y5) (.ok (F8 (.list ts ns) q k x b o8 none j1 j2 o17 o18,none) (A4 r0 t0 r' x5 y5)):=by
 obtain⟨j1,j2,r',hj1,hj2,h1⟩:=U9 (Aa:=Aa) (d:=d) (q:=q) (k:=k) (x:=x) (b:=b) (ns:=ns) (r0:=r0) (t0:=t0) (rr:=rr) (x5:=x5) (y5:=y5) h0
 have hu:ts[j1]? =some ts[j1]:=List.getElem?_eq_getElem hj1
 have hj:j1 < 4:=by
  cases ht with
  | list _ _ hs=>have:=hs rfl;exact Nat.le_trans ‹_› (zz ‹_› (by rfl))
 have h2:=Uz (Aa:=Aa) (d:=d) (q:=q) (k:=k) (x:=x) (b:=b) (ns:=ns) (r0:=r0) (t0:=t0) (rr:=r') (x5:=x5) (y5:=y5) (j2:=j2) hj hu
 have h3:=Zo (Aa:=Aa) (d:=d) (q:=q) (k:=k) (x:=x) (b:=b) (r0:=r0) (t0:=t0) (rr:=r') (x5:=x5) (y5:=y5) (j2:=j2) ht hu
 obtain⟨o18,h4⟩:=XV (Aa:=Aa) (d:=d) (q:=q) (k:=k) (x:=x) (b:=b) (r0:=r0) (t0:=t0) (rr:=r') (x5:=x5) (y5:=y5) ht hq hj hj2 hu
 have p0:(0:Int) < (ts.length:Int):=by exact qG ‹_›
 exact⟨_,_,_,_,o18,r',TS.ifT (b:=Pd) (QE (aa 3 (.b .z)) fun q=>q p0) (h1.app (h2.app (h3.app h4)))⟩
end
section
variable{Aa:List Int}{d k n m m' i j:Nat}{t q r u:Aj}{ts:List Aj}{ns:Option (List TV)}{r0:List TV}{t0:TV}{rr:List Int}{x5:List TV}{y5 x b:TV}
theorem TF(ht:Bf true 2 t)(hq:Bf true 1 q):BJ Aa (d+13) (Fk.drop 15) (Gx t q k (some (.f x)) none (some (.f b)) none) (A4 r0 t0 rr x5 y5) (.ok (.s (.bool true))):=by
 have v:=Hf (Aa:=Aa) (d:=d+8) 2 ht
 have w:=LS ht 64 (by decide)
 by_cases h:∃ts ns,t=.list ts ns/\0 < ts.length
 .obtain ⟨ts,ns,rfl,h0⟩:=h
  obtain⟨j1,j2,o8,o17,o18,r',h1⟩:=aC (Aa:=Aa) (d:=d) (q:=q) (k:=k) (x:=x) (b:=b) (r0:=r0) (t0:=t0) (rr:=rr) (x5:=x5) (y5:=y5) ht hq h0
  exact BJ.app h1 (QZ (.a (.d .z)) fun q=>q v rfl w)
 .have h1:=TU (Aa:=Aa) (d:=d) (q:=q) (k:=k) (x:=x) (b:=b) (r0:=r0) (t0:=t0) (rr:=rr) (x5:=x5) (y5:=y5) ht (fun ts ns e=>Classical.byContradiction fun hn=>h ⟨ts,ns,e,List.length_pos_iff.mpr hn⟩)
  exact BJ.app h1 (QZ (.a (.d .z)) fun q=>q v rfl w)
theorem AZ:TR Aa 16 .AZ [sv .ext] [] (.ok (.s (.bool true)) []):=by
 obtain⟨r,r0,t0,h0⟩:=ZD (Aa:=Aa) (d:=14)
 obtain⟨t,q,r1,ht,hq,h1⟩:=YU (Aa:=Aa) (d:=8) (r0:=r0) (t0:=t0) (r:=r)
 obtain⟨r2,y,h2⟩:=Rm (Aa:=Aa) (d:=3) (r0:=r0) (t0:=t0) (rr:=r1) ht hq
 obtain⟨k,x,r3,hk,h3⟩:=Vd (Aa:=Aa) (d:=3) (r0:=r0) (t0:=t0) (rr:=r2) (x5:=KP) (y5:=y) ht hq
 have h4:=TF (Aa:=Aa) (d:=2) (k:=k) (x:=x) (b:=(Dr t).w) (r0:=r0) (t0:=t0) (rr:=r3) (x5:=KP) (y5:=y) ht hq
 exact QB (f:= .AZ) (args:=[sv .ext]) (r:= .ok (.s (.bool true))) rfl rfl (BJ.app h0 (BJ.app h1 (BJ.app h2 (BJ.app h3 h4))))
end
theorem plain_law(s:List Int):∃H',D8 prog s Gd initOf 16 .AZ [.ext] [.tab]=.ok (.bool true) H'/\H'[0]? =some .tab:=VO s AZ
end P
end
open Fn
open PySem PySem.W PyProof.Rows PySem.Calls PySem.SeqAt
theorem Ql{vs:List Value}{ns:List Int}(h:IntsAre vs ns):vs.length=ns.length:=by
 have:=IntsAre.sizeZ h
 rw[List.size_toArray]at this
 omega
noncomputable def eX(_:World)(h:Heap):Prop:=∃K,JM K/\K.In h/\h.get? 820=some (tabObj #[])
theorem top_of(plain:∀Aa:List Int,Aa.length<=63->∃H',D8 prog Aa Gd initOf 16 .AZ [.ext] [.tab]=.ok (.bool true) H'/\H'[0]? =some .tab):PySem.Challenge.rw_nz0526_01.Holds:=by
 refine holds_law eT fun said'=> ?_
 refine holds_open (q:=qv) (loose:=He) (Xt:=aZ) (XP:=XL qv []) (Yf:=fun s=>yf s.heap) (Ya:=fun J=>(true,some (tabObj #[]))) (YP:=eX) (N:=9188) (left (fun s=>yf s.heap) _ Xa)
  (fun w s e=>⟨Ny s.heap,Tj (congrArg Prod.fst e),Qc _,congrArg Prod.snd e⟩)
  (fun w h h' ⟨K,F,I,t⟩ k=>⟨K,F,I.keeps k,k _ _ t⟩)
  (fun s e=>xl_of s (Bool.and_eq_true_iff.mp e).1) XL.keeps (by rfl) (by rfl) (by rfl) (fun s e=>recFacts_of (Bool.and_eq_true_iff.mp e).2) rfl said' (by kernel_rfl) ⟨rfl,rfl,rfl,rfl,rfl,by decide+kernel⟩ ?hw ?hc
 case hw=>w_witness2
 case hc=>
  intro w s₀ s₁ mg mb G Y fa o pm cd doc dV kV ho hd hcd hD hmg hg args vals as hpre hlay hrd hwl hlo
  obtain⟨K,F,KX,hT⟩:=Y
  refine Ground.open G ?_
  intro T B D TE TW
  try (refine guard_noD D (by decide+kernel) ?_;clear D)
  have hT9:TabsAt ([(824,820)]:List (Addr×Addr)) _:=CZ.mpr ⟨⟨codeHd_of_K (c:=824) (P:=820) KX F.kl1,hT⟩,fun J h=>nomatch h⟩
  have hfa:fa=825:=by
   have e:=mg_of KX (Top.g T) F.kl3
   have e2:=e.symm.trans hmg
   cases e2;rfl
  subst hfa
  clear hmg ho hd hcd
  wrow_args hpre hlay hrd hwl hlo
  refine enter_call ?_
  rename Heap.IsList _ _ _=>hL
  rename IntsAre _ _=>hI
  rename (¬_ < _)=>hc
  refine kn_post hT9 (fun J J=>rfl) ?_
  refine Vm (U:=Zf PySem.Challenge.rw_nz0526_01.row.prog w K topProg _ _ mg mb _ _) (G:=ghostOf s₁.heap [(824,820)]) (d:=15) (Yv F) (Z5 F) (Z1 F) ⟨ghost_K hT9 KX F.kl2,ghost_top hT9 T,⟨_,ghost_list hT9 hL,hI,?_⟩⟩ T.nolimit KX (fun b o e=>of_hideAll _ e) (Nat.le_of_eq (hideAll_size _ _)) hT (hideAll_none _ (.head _)) (by decide:(3:Nat) < 820) (by decide) (by decide) (plain _ ?_) fun h' CG keep gr=> ?_
  .rw [Ql hI,sizeLine_eq];omega
  .omega
  .refine ⟨⟨.inl ⟨.bool true,.bool true,[],rfl,fun J=>rfl,.bool true,?_,unshared_nil⟩,keep,rfl,hg⟩,gr,trivial⟩
   wrow_post
end Mine
theorem PySem.Challenge.cw_nz0526_01_holds : PySem.Challenge.rw_nz0526_01.Holds :=
  Mine.top_of fun s _ => Mine.P.plain_law s
